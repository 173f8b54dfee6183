import PyProof.Rows.All
import Wide.All
import OpenK.AllK
import Wide.FinOn
import HandS.ForMost
import HandS.Evl
import HandS.SortInts
import HandS.IsInst
import HandS.SetFor
import HandS.Sort
import HandS.TupAny
import HandS.Wide
import KE.SortData
import KE.KEqSeq
import PyProof.P3Eq
import KE.KDictCopyH
import PyProof.ListRange
import KE.KDictPairs
import HandS.Deep
import HandS.Zip
import HandS.Style
import KE.GoesMore
import KE.GoesEnum
import HandS.TupSets
import PySem.Challenge.RW_partedweb_k43_widths_of_orders
set_option Elab.async false
set_option linter.all false
set_option maxRecDepth 100000
set_option maxHeartbeats 8000000
/-! ## PwRules -/
namespace Pw
open PySem PySem.Spec PyProof.Rows L2 PySem.W
abbrev AIs {α β : Type} := @PySem.W.EachIs α β

/-! ### rules that the layer lacks -/
section
variable {X : Cx}
/-- one thing or the other, the first reading or the second -/
theorem pi_or {tg iter : Expr} {w1 w2 : TI} (h1 : PI X tg iter w1) (h2 : PI X tg iter w2) : PI X tg iter (fun σ H R => w1 σ H R ∨ w2 σ H R) :=
  ⟨fun pins s σ H R I h => h.elim (h1.run pins s σ H R I) (h2.run pins s σ H R I)⟩
theorem pe_or2 {e : Expr} {t1 t2 : TE} (h1 : PE X e t1) (h2 : PE X e t2) : PE X e (fun σ H Q => t1 σ H Q ∨ t2 σ H Q) :=
  ⟨fun pins s σ H Q I h => h.elim (h1.run pins s σ H Q I) (h2.run pins s σ H Q I)⟩
theorem callR_or {f : Value} {r1 r2 : List V → Hp → VK → Prop} (h1 : CallR X f r1) (h2 : CallR X f r2) : CallR X f (fun vs H Q => r1 vs H Q ∨ r2 vs H Q) :=
  fun pins s σ H xs us Q I r h => h.elim (h1 pins s σ H xs us Q I r) (h2 pins s σ H xs us Q I r)
theorem opR_or {f : Value → Value → Sem Value} {r1 r2 : R2} (h1 : OpR X f r1) (h2 : OpR X f r2) : OpR X f (fun x y H Q => r1 x y H Q ∨ r2 x y H Q) :=
  fun pins s σ H x y u v Q I rx ry h => h.elim (h1 pins s σ H x y u v Q I rx ry) (h2 pins s σ H x y u v Q I rx ry)

theorem cr_range1 : CallR X (.type "range") (fun vs H Q => ∃ j, vs = [V.int j] ∧ ∀ p, H p = none → Q (.ref p) (upd H p (.rng 0 j))) := by
  intro pins s σ H vs us Q I r h
  obtain ⟨j, rfl, q⟩ := h
  obtain ⟨u1, rfl, rj⟩ := vals1 r
  obtain ⟨u, rfl⟩ := rj
  refine call_range_1 ⟨.ref s.heap.objs.size, upd H s.heap.objs.size (.rng 0 j), I.laid (t' := s.toks + 2) (fun b o e => Heap.get?_push_of_some _ e) (Nat.le_refl _) ?_, rfl, q _ (I.hok.fresh (Nat.le_refl _))⟩
  exact ⟨s.toks, u, s.toks + 1, Heap.get?_push_size _ rfl⟩

theorem rangeSize1 {a b : Int} : Builtin.Range.rangeSize a b 1 = ((b - a).toNat : Int) := by
  unfold Builtin.Range.rangeSize
  rw [if_pos (by decide)]
  by_cases h : a < b
  · rw [if_pos h]; omega
  · rw [if_neg h]; omega


theorem paired_of {α β : Type} {F : α → β → Prop} : ∀ {xs : List α} {ys : List β}, xs.length = ys.length → (∀ (i : Nat) x y, xs[i]? = some x → ys[i]? = some y → F x y) → Paired F xs ys
  | [], [], _, _ => .nil
  | [], _ :: _, h, _ => by simp at h
  | _ :: _, [], h, _ => by simp at h
  | x :: xs, y :: ys, h, g => .cons (g 0 x y rfl rfl) (paired_of (by simpa using h) fun i a b ha hb => g (i + 1) a b (by simpa using ha) (by simpa using hb))

/-- list(range(..)) -/
theorem call_list_rng (hh : X.calm = true) : CallR X (.type "list") (fun vs H Q => ∃ (r : Addr) (a b : Int), vs = [V.ref r] ∧ H r = some (.rng a b) ∧ -(2 ^ 61) ≤ a ∧ a < 2 ^ 61 ∧ -(2 ^ 61) ≤ b ∧ b < 2 ^ 61 ∧ (b - a).toNat ≤ 100000 ∧
    ∀ p, H p = none → Q (.ref p) (upd H p (.lst ((List.range (b - a).toNat).map fun (i : Nat) => V.int (a + (i : Int)))))) := by
  intro pins s σ H vs us Q I rr h
  obtain ⟨r, a, b, rfl, hr, h1, h2, h3, h4, hn, q⟩ := h
  obtain ⟨u, rfl, ru⟩ := vals1 rr
  cases ru
  obtain ⟨t, u, v, ho⟩ := (show ObjOk X.prog X.w H s.heap r (.rng a b) from I.hok r _ hr)
  refine call_list_range (I.ok.hd hh) (a := a) (b := b) (c := 1) (t := t) (u := u) (v := v) (n := (b - a).toNat) ho ?_ rangeSize1 (by omega) fun h' tk acc' c' hk hS hI => ?_
  · unfold Builtin.Range.small
    rw [rangeSize1]
    simp only [Builtin.Range.rangeFitsLong, Bool.and_eq_true, Bool.or_eq_true, decide_eq_true_eq, if_pos (show (1 : Int) > 0 by decide)]
    refine ⟨⟨⟨⟨?_, ?_⟩, ?_⟩, ?_⟩, Or.inr ?_⟩ <;> omega
  · refine ⟨.ref s.heap.objs.size, _, I.laid (t' := tk) hk (Nat.le_refl _) (o := .lst ((List.range (b - a).toNat).map fun (i : Nat) => V.int (a + (i : Int)))) ⟨?_, acc'.toList, c', ?_, ?_⟩, rfl, q _ (I.hok.fresh (Nat.le_refl _))⟩
    · rw [List.length_map, List.length_range]
      exact Nat.le_trans hn (by decide)
    · refine paired_of ?_ fun j x y hx hy => ?_
      · rw [List.length_map, List.length_range, Array.length_toList, hI.1]
      · rw [List.getElem?_map] at hx
        obtain ⟨i, hi, rfl⟩ := Option.map_eq_some_iff.mp hx
        have e := List.getElem?_eq_some_iff.mp hi
        obtain ⟨e1, e2⟩ := e
        rw [List.getElem_range] at e2
        subst e2
        obtain ⟨tk, ey⟩ := hI.2 j y (by rw [← Array.getElem?_toList]; exact hy)
        exact ⟨tk, by rw [ey, Int.mul_one]⟩
    · rw [Array.toArray_toList]; exact hS

/-! ### [truths].count(truth) -/
def eqb (k : Bool) (v : Value) : Bool := match v with
  | .bool n => n == k
  | _ => false
theorem mt_lcountB : MtR X "list.count" (fun x xs H Q => ∃ (p : Addr) (ns : List Bool) (k : Bool), x = .ref p ∧ xs = [.bl k] ∧ SqL X.K H p (ns.map V.bl) ∧ Q (.int (ns.count k : Nat)) H) := by
  intro pins s σ H x xs v us Q I rx rxs h
  obtain ⟨p, ns, k, rfl, rfl, hs, q⟩ := h
  cases rx
  obtain ⟨u, rfl, ru⟩ := rxs.one
  cases (show u = Value.bool k from ru)
  obtain ⟨its, rv, ⟨⟨cls, dd, data, sl⟩, n, ho, hc, hdn, hd⟩, hlen⟩ := I.list hs
  simp only at hc hd
  subst hc hd
  have hb : ∀ y ∈ its, ∃ b, y = Value.bool b := by
    intro y hy
    obtain ⟨i, hi, e⟩ := List.mem_iff_getElem.mp hy
    have e1 : its[i]? = some y := by rw [List.getElem?_eq_getElem hi, e]
    have hl := rv.length
    obtain ⟨u, e2, e3⟩ := rv.get (i := i) (x := (ns.map V.bl)[i]'(by omega)) (List.getElem?_eq_getElem _)
    rw [e1] at e2
    cases e2
    rw [List.getElem_map] at e3
    exact ⟨_, e3⟩
  have hcount : ∀ {ns : List Bool} {its : List Value}, Vals (ns.map V.bl) its → its.countP (eqb k) = ns.count k := by
    intro ns
    induction ns with
    | nil => intro its r; cases r; rfl
    | cons b bs ih =>
      intro its r
      cases r with
      | cons r1 r2 =>
        cases (show _ = Value.bool b from r1)
        rw [List.countP_cons, List.count_cons, ih r2] <;> rfl
  refine call_meets PySem.F.slot_list_count ⟨_, ho, rfl⟩ PySem.F.entry_list_count (PySem.F.args_list_count_2 _ _)
    (SeqAt.list_countAt p its.toArray n dd sl (.bool k) (eqb k)) ⟨ho, fun y hy => ?_, ?_⟩
  · obtain ⟨b, rfl⟩ := hb y (by simpa using hy)
    exact SeqAt.EqAt.bool_bool b k
  · refine ⟨.int (ns.count k : Nat), H, I.tok _, ⟨s.toks, ?_⟩, q⟩
    show Value.int ((its.toArray.toList.countP (eqb k) : Nat) : Int) s.toks = Value.int ((ns.count k : Nat) : Int) s.toks
    rw [show its.toArray.toList = its by simp, hcount rv]

/-! ### sorted of tuples of ints -/
def encTI (b : Addr × List Int) : PyData := .tuple (b.2.map .int)
abbrev leTI (b c : Addr × List Int) : Bool := dataLe false encTI b c
theorem reads_ints {h : Heap} : ∀ {ns : List Int} {its : List Value}, Vals (ns.map V.int) its → ReadsAll h its (ns.map .int) []
  | [], _, r => by cases r; exact .nil
  | n :: ns, _, r => by
    cases r with
    | cons r1 r2 =>
      obtain ⟨t, rfl⟩ := r1
      exact ReadsAll.cons (as := []) (bs := []) (.int n t) (reads_ints r2)
theorem reads_ti {h : Heap} {t : Addr} {ns : List Int} {its : List Value} (ht : IsTup h t its.toArray) (r : Vals (ns.map V.int) its) : Reads h (.ref t) (.tuple (ns.map .int)) [] := by
  obtain ⟨o, ho, hc, n, hd⟩ := ht
  exact Reads.tuple ho hc hd (by simpa using reads_ints r)
theorem alike_enc (b c : Addr × List Int) : alike (encTI b) (encTI c) = true := by
  show alikeAll _ _ = true
  exact alike_ints _ _
theorem depth_enc (b : Addr × List Int) : (encTI b).depth ≤ 1 := by
  unfold encTI
  rw [PyData.depth, depth_ints]
  all_goals omega
theorem each_ti {s : Shared} {pins : List (Addr × Obj)} {σ : L2.St} {H : Hp} (I : L2.Inv X pins σ H s) : ∀ {bs : List (Addr × List Int)}, (∀ b ∈ bs, SqT X.K H b.1 (b.2.map V.int)) → EachIs (fun v b => ∃ as, Reads s.heap v (encTI b) as ∧ as = []) (bs.map fun b => Value.ref b.1) bs
  | [], _ => .nil
  | b :: bs, h => by
    refine .cons ?_ (each_ti I fun c hc => h c (List.mem_cons_of_mem _ hc))
    obtain ⟨its, r, ht, _⟩ := I.tuple (h b List.mem_cons_self)
    exact ⟨[], reads_ti ht r, rfl⟩
theorem each_id : ∀ {bs : List (Addr × List Int)}, EachIs (fun (v : Value) (b : Addr × List Int) => v = .ref b.1) (bs.map fun b => Value.ref b.1) bs
  | [] => .nil
  | _ :: _ => .cons rfl each_id
theorem each_out : ∀ {out : List Value} {bs : List (Addr × List Int)}, EachIs (fun (v : Value) (b : Addr × List Int) => v = .ref b.1) out bs → out = bs.map fun b => Value.ref b.1
  | _, _, .nil => rfl
  | _, _, .cons h t => by rw [h, each_out t]; rfl
theorem vals_refs : ∀ {bs : List (Addr × List Int)}, Vals (bs.map fun b => V.ref b.1) (bs.map fun b => Value.ref b.1)
  | [] => .nil
  | _ :: _ => .cons rfl vals_refs
theorem vals_refs_eq : ∀ {bs : List (Addr × List Int)} {its : List Value}, Vals (bs.map fun b => V.ref b.1) its → its = bs.map fun b => Value.ref b.1
  | [], _, r => by cases r; rfl
  | b :: bs, _, r => by
    cases r with
    | cons r1 r2 => rw [show _ = Value.ref b.1 from r1, vals_refs_eq r2]; rfl

/-- sorted(xs), xs a list of tuples of ints -/
theorem cr_sortedTI (hu : X.A.units + 64 < cLine) : CallR X (.builtin "sorted") (fun vs H Q => ∃ (a : Addr) (bs : List (Addr × List Int)), vs = [V.ref a] ∧ SqL X.K H a (bs.map fun b => V.ref b.1) ∧ (∀ b ∈ bs, b.2 ≠ [] ∧ SqT X.K H b.1 (b.2.map V.int)) ∧
    ∀ p, H p = none → Q (.ref p) (upd H p (.lst ((bs.mergeSort leTI).map fun b => V.ref b.1)))) := by
  intro pins s σ H vs us Q I r h
  obtain ⟨a, bs, rfl, hl, hb, q⟩ := h
  obtain ⟨u, rfl, ru⟩ := vals1 r
  cases ru
  obtain ⟨its, rv, pl, hz⟩ := I.list hl
  have e := vals_refs_eq rv
  subst e
  rw [List.length_map] at hz
  refine sorted_data (R := fun v b => v = .ref b.1) (enc := encTI) (bs := bs) pl.isList each_id ((each_ti I fun b hb' => (hb b hb').2).mono fun _ _ ⟨as, h, _⟩ => ⟨as, h⟩) (.of fun b c => alike_enc b c) ?_ hz (fun b _ => ?_) fun out ho eo => ?_
  · refine .inl fun d hd => ?_
    obtain ⟨b, hb', rfl⟩ := List.mem_map.mp hd
    have h0 := (hb b hb').1
    unfold encTI
    cases e : b.2 with
    | nil => exact absurd e h0
    | cons x r => exact ⟨_, _, rfl⟩
  · have := depth_enc b
    omega
  · have e := each_out eo
    subst e
    obtain ⟨c, hc⟩ := sortedAll_at s.heap (bs.map fun b => Value.ref b.1) ((bs.mergeSort (dataLe false encTI)).map fun b => Value.ref b.1).toArray
    refine ⟨.ref (s.heap.objs.size + 1), _, I.laid (t' := s.toks) (fun b o => sortedAll_old) (Nat.le_succ _) (o := .lst ((bs.mergeSort leTI).map fun b => V.ref b.1)) ⟨?_, _, c, vals_refs, hc⟩, rfl, q _ (I.hok.fresh (Nat.le_succ _))⟩
    rw [List.length_map, List.length_mergeSort]
    exact hz

theorem kt_split {H : Hp} : ∀ {kvs : List (List Key × V)} {xs : List (List Key × Addr × Value)} {ks : List (List Int)}, KT H kvs xs → kvs.map (·.1) = ks.map (·.map Sum.inl) →
    ∃ bs : List (Addr × List Int), bs.map (·.2) = ks ∧ bs.map (·.1) = xs.map (·.2.1) ∧ ∀ b ∈ bs, H b.1 = some (.tup (b.2.map V.int))
  | _, _, [], .nil, _ => ⟨[], rfl, rfl, fun b hb => by cases hb⟩
  | _, _, _ :: _, .nil, e => by simp at e
  | _, _, [], .cons _ _, e => by simp at e
  | (k, v) :: kvs, (k', a, u) :: xs, n :: ns, .cons h t, e => by
    simp only [List.map_cons, List.cons.injEq] at e
    obtain ⟨bs, e1, e2, e3⟩ := kt_split t e.2
    refine ⟨(a, n) :: bs, by rw [List.map_cons, e1], by rw [List.map_cons, List.map_cons, e2], fun b hb => ?_⟩
    rcases List.mem_cons.mp hb with rfl | hb
    · have h2 : H a = some (.tup (k.map kV)) := h.2.1
      rw [e.1] at h2
      rw [h2, List.map_map]
      rfl
    · exact e3 b hb

/-- sorted(d), d a dict whose keys are tuples of ints -/
theorem cr_sortedDT (hcalm : X.calm = true) (hu : X.A.units + 64 < cLine) : CallR X (.builtin "sorted") (fun vs H Q => ∃ (a : Addr) (kvs : List (List Key × V)) (ks : List (List Int)), vs = [V.ref a] ∧ Rd H a (.dT kvs) ∧ kvs.map (·.1) = ks.map (·.map Sum.inl) ∧ (∀ k ∈ ks, k ≠ []) ∧
    ∀ (bs : List (Addr × List Int)) p, bs.map (·.2) = ks → (∀ b ∈ bs, H b.1 = some (.tup (b.2.map V.int))) → H p = none → Q (.ref p) (upd H p (.lst ((bs.mergeSort leTI).map fun b => V.ref b.1)))) := by
  intro pins s σ H vs us Q I r h
  obtain ⟨a, kvs, ks, rfl, hd, hks, hne, q⟩ := h
  obtain ⟨u, rfl, rx⟩ := vals1 r
  cases rx
  obtain ⟨z, lo, xs, rel, o, es, ep, ho, hex, hdat, hes, hkk, hnd⟩ := dt_rd I.hok hd
  obtain ⟨bs, e1, e2, e3⟩ := kt_split rel hks
  have hlen : es.size = bs.length := by
    have e := congrArg List.length e2
    rw [List.length_map, List.length_map] at e
    rw [← Array.length_toList, hes, List.length_map, e]
  have hl2 : kvs.length = bs.length := by
    have e := congrArg List.length hks
    have e' := congrArg List.length e1
    simp only [List.length_map] at e e'
    omega
  refine Calls.call_function_entry PyProof.Rows.kind_sorted PyProof.Rows.plain_sorted PyProof.Rows.entry_sorted (PyProof.Rows.args_sorted1 _) ?_
  unfold Builtin.«sorted»
  refine wpAny_bind (m := checkCount "sorted" 1 1 _) (wpAny_pure ?_)
  refine wpAny_bind (PySem.W.kdu_collect (A := X.A.in1) (KdlSrc.rawDict (es := es) (ep := ep) lo) (I.ok.hd hcalm) ⟨o, ho, hex, hdat⟩ (by omega) fun h' tk acc hk hacc => ?_)
  have hacc2 : acc.toList = bs.map fun b => Value.ref b.1 := by
    refine List.ext_getElem? fun i => ?_
    rw [List.getElem?_map]
    by_cases hi : i < bs.length
    · obtain ⟨v, hv⟩ : ∃ v, acc[i]? = some v := ⟨acc[i]'(by rw [hacc.1]; omega), Array.getElem?_eq_getElem _⟩
      obtain ⟨hi2, e⟩ := hacc.2 i v hv
      rw [Array.getElem?_toList, hv, e]
      have e4 : es.toList[i]? = some es[i] := by rw [Array.getElem?_toList, Array.getElem?_eq_getElem hi2]
      rw [hes, List.getElem?_map] at e4
      obtain ⟨x, hx, ex⟩ := Option.map_eq_some_iff.mp e4
      have e5 : (bs.map (·.1))[i]? = some x.2.1 := by rw [e2, List.getElem?_map, hx]; rfl
      rw [List.getElem?_map] at e5
      obtain ⟨b, hb, eb⟩ := Option.map_eq_some_iff.mp e5
      rw [hb, ← ex]
      show some (Value.ref x.2.1) = some (Value.ref b.1)
      rw [eb]
    · rw [List.getElem?_eq_none (by rw [Array.length_toList, hacc.1]; omega), List.getElem?_eq_none (by omega)]
      rfl
  have I1 : Inv X pins σ H { s with heap := h', toks := tk } := I.kept hk
  rw [hacc2]
  refine wpAny_bind (wpAny_newList ?_ (by rw [List.length_map]; omega))
  have hoL : (h'.push (seqObj "list" (bs.map fun b => Value.ref b.1).toArray 0)).get? h'.objs.size = some (seqObj "list" (bs.map fun b => Value.ref b.1).toArray 0) := Heap.get?_push_size _ rfl
  show wpAny _ _ _ _ _ { s with heap := h'.push (seqObj "list" (bs.map fun b => Value.ref b.1).toArray 0), toks := tk }
  have I2 : Inv X pins σ H { s with heap := h'.push (seqObj "list" (bs.map fun b => Value.ref b.1).toArray 0), toks := tk } := I1.kept (t' := tk) fun b u z => Heap.get?_push_of_some _ z
  refine wpAny_bind (wpAny_holding (list_sort_data (R := fun v b => v = .ref b.1) (enc := encTI) (bs := bs) hoL each_id ((each_ti I2 fun b hb' => .inl (.inl (e3 b hb'))).mono fun _ _ ⟨as, h, e⟩ => ⟨as, h, by rw [e]; exact List.not_mem_nil⟩) (.of fun b c => alike_enc b c) ?_ (by omega) (fun b _ => ?_) fun out hout eo => ?_))
  · refine .inl fun d hd => ?_
    obtain ⟨b, hb', rfl⟩ := List.mem_map.mp hd
    have h0 : b.2 ≠ [] := hne _ (by rw [← e1]; exact List.mem_map.mpr ⟨b, hb', rfl⟩)
    unfold encTI
    cases e : b.2 with
    | nil => exact absurd e h0
    | cons x r => exact ⟨_, _, rfl⟩
  · have := depth_enc b
    show X.A.units + 1 + 1 + (encTI b).depth < cLine
    omega
  · have e := each_out eo
    subst e
    obtain ⟨e', he'⟩ := PyProof.Rows.sortedHeap_at (vs := bs.map fun b => Value.ref b.1) (out := ((bs.mergeSort (dataLe false encTI)).map fun b => Value.ref b.1).toArray) hoL
    refine wpAny_pure ⟨_, rfl, .ref h'.objs.size, upd H h'.objs.size (.lst ((bs.mergeSort leTI).map fun b => V.ref b.1)), I1.laid (t' := tk) (fun b u e => ?_) (Nat.le_refl _)
      (show ObjOk X.prog X.w _ _ _ (.lst ((bs.mergeSort leTI).map fun b => V.ref b.1)) from ⟨?_, _, e', vals_refs, he'⟩), rfl, q bs _ e1 e3 (I1.hok.fresh (Nat.le_refl _))⟩
    · have hb : b < h'.objs.size := Heap.lt_size e
      rw [PyProof.Rows.sortedHeap_old (Nat.ne_of_lt hb) (by rw [size_push']; exact Nat.lt_succ_of_lt hb)]
      exact Heap.get?_push_of_some _ e
    · rw [List.length_map, List.length_mergeSort]
      omega
end
end Pw

/-! ## PwBase -/
namespace Pw
open PySem L2 Evl

/-! ### heaps: all but some objects is as it was -/
def Xs (S : List Addr) (H H' : Hp) : Prop := ∀ a o, a ∉ S → H a = some o → H' a = some o
theorem Xs.refl {S : List Addr} {H : Hp} : Xs S H H := fun _ _ _ h => h
theorem Xs.trans {S : List Addr} {H H1 H2 : Hp} (x : Xs S H H1) (y : Xs S H1 H2) : Xs S H H2 := fun a o n h => y a o n (x a o n h)
theorem Xs.of {S : List Addr} {H H' : Hp} (e : Ex H H') : Xs S H H' := fun a o _ h => e a o h
theorem Xs.weak {S T : List Addr} {H H' : Hp} (x : Xs S H H') (h : ∀ a ∈ S, a ∈ T) : Xs T H H' := fun a o n e => x a o (fun m => n (h a m)) e
theorem Xs.put {S : List Addr} {H H' : Hp} {a : Addr} {o : HO} (x : Xs S H H') (h : a ∈ S) : Xs S H (upd H' a o) := fun b u n e => by
  rw [upd_ne (fun z => n (by rw [z]; exact h))]
  exact x b u n e
theorem Xs.new {S : List Addr} {H H' : Hp} {p : Addr} {o : HO} (x : Xs S H H') (h : H' p = none) : Xs S H (upd H' p o) := fun b u n e => by
  have e1 := x b u n e
  rw [upd_ne (ne_of_none e1 h)]
  exact e1
theorem Xs.ex {S : List Addr} {B H H' : Hp} (x : Xs S H H') (e : Ex B H) (n : ∀ a ∈ S, B a = none) : Ex B H' := fun a o h => x a o (fun m => by rw [n a m] at h; cases h) (e a o h)
theorem Xs.ex1 {b : Addr} {B H H' : Hp} (x : Xs [b] H H') (e : Ex B H) (n : B b = none) : Ex B H' := x.ex e fun a m => by
  rw [List.mem_singleton.mp m]
  exact n
/-- the heap without some objects -/
def mi (H : Hp) (S : List Addr) : Hp := fun a => if a ∈ S then none else H a
theorem mi_ex {H : Hp} {S : List Addr} : Ex (mi H S) H := fun a o h => by
  unfold mi at h
  by_cases m : a ∈ S
  · rw [if_pos m] at h; cases h
  · rw [if_neg m] at h; exact h
theorem mi_no {H : Hp} {S : List Addr} {a : Addr} (m : a ∈ S) : mi H S a = none := by unfold mi; rw [if_pos m]
theorem mi_at {H : Hp} {S : List Addr} {a : Addr} (m : a ∉ S) : mi H S a = H a := by unfold mi; rw [if_neg m]
theorem ex_mi {B H : Hp} {S : List Addr} (e : Ex B H) (n : ∀ a ∈ S, B a = none) : Ex B (mi H S) := fun a o h => by
  rw [mi_at (fun m => by rw [n a m] at h; cases h)]
  exact e a o h
theorem ex_mi1 {B H : Hp} {b : Addr} (e : Ex B H) (n : B b = none) : Ex B (mi H [b]) := ex_mi e fun a m => by
  rw [List.mem_singleton.mp m]
  exact n
theorem mi_no1 {H : Hp} {b : Addr} : mi H [b] b = none := mi_no (List.mem_singleton.mpr rfl)
theorem ex_upd {B H : Hp} {a : Addr} {o : HO} (e : Ex B H) (n : B a = none) : Ex B (upd H a o) := fun b u h => by
  rw [upd_ne (fun z => by rw [z, n] at h; cases h)]
  exact e b u h

/-! ### data: its tuples stand in the heap by themselves -/
mutual
inductive Dq (K : PySem.W.Frag) (H : Hp) : V → PyData → Prop
  | non : Dq K H .non .none
  | bl (b : Bool) : Dq K H (.bl b) (.bool b)
  | int (i : Int) : Dq K H (.int i) (.int i)
  | str (x : Str) : Dq K H (.str x) (.str x)
  | lst {a : Addr} {xs : List V} {ds : List PyData} : SqL K H a xs → DqAll K H xs ds → Dq K H (.ref a) (.list ds)
  | tup {a : Addr} {xs : List V} {ds : List PyData} : H a = some (.tup xs) → DqAll K H xs ds → Dq K H (.ref a) (.tuple ds)
inductive DqAll (K : PySem.W.Frag) (H : Hp) : List V → List PyData → Prop
  | nil : DqAll K H [] []
  | cons {v : V} {vs : List V} {d : PyData} {ds : List PyData} : Dq K H v d → DqAll K H vs ds → DqAll K H (v :: vs) (d :: ds)
end
mutual
theorem Dq.mono {K : PySem.W.Frag} {H H' : Hp} (e : Ex H H') : ∀ {v : V} {d : PyData}, Dq K H v d → Dq K H' v d
  | _, _, .non => .non
  | _, _, .bl b => .bl b
  | _, _, .int i => .int i
  | _, _, .str x => .str x
  | _, _, .lst h a => .lst (ex_l e h) (DqAll.mono e a)
  | _, _, .tup h a => .tup (e _ _ h) (DqAll.mono e a)
theorem DqAll.mono {K : PySem.W.Frag} {H H' : Hp} (e : Ex H H') : ∀ {vs : List V} {ds : List PyData}, DqAll K H vs ds → DqAll K H' vs ds
  | _, _, .nil => .nil
  | _, _, .cons h t => .cons (Dq.mono e h) (DqAll.mono e t)
end
mutual
theorem Dq.dp {K : PySem.W.Frag} {H : Hp} : ∀ {v : V} {d : PyData}, Dq K H v d → L2.Dp K H v d
  | _, _, .non => .non
  | _, _, .bl b => .bl b
  | _, _, .int i => .int i
  | _, _, .str x => .str x
  | _, _, .lst h a => .lst h (DqAll.dp a)
  | _, _, .tup h a => .tup (st_of h) (DqAll.dp a)
theorem DqAll.dp {K : PySem.W.Frag} {H : Hp} : ∀ {vs : List V} {ds : List PyData}, DqAll K H vs ds → L2.DpAll K H vs ds
  | _, _, .nil => .nil
  | _, _, .cons h t => .cons (Dq.dp h) (DqAll.dp t)
end
section
variable {K : PySem.W.Frag} {H : Hp}
theorem DqAll.length : ∀ {vs : List V} {ds : List PyData}, DqAll K H vs ds → vs.length = ds.length
  | _, _, .nil => rfl
  | _, _, .cons _ t => by rw [List.length_cons, List.length_cons, DqAll.length t]
theorem DqAll.get : ∀ {vs : List V} {ds : List PyData} {i : Nat} {v : V}, DqAll K H vs ds → vs[i]? = some v → ∃ d, ds[i]? = some d ∧ Dq K H v d
  | _, _, _, _, .nil, e => by simp at e
  | _, _, 0, v, .cons h _, e => by
    simp only [List.getElem?_cons_zero, Option.some.injEq] at e
    exact ⟨_, rfl, e ▸ h⟩
  | _, _, i + 1, v, .cons _ t, e => by
    obtain ⟨d, h1, h2⟩ := DqAll.get (i := i) t (by simpa using e)
    exact ⟨d, by simpa using h1, h2⟩
theorem DqAll.getd : ∀ {vs : List V} {ds : List PyData} {i : Nat} {d : PyData}, DqAll K H vs ds → ds[i]? = some d → ∃ v, vs[i]? = some v ∧ Dq K H v d
  | _, _, _, _, .nil, e => by simp at e
  | _, _, 0, d, .cons h _, e => by
    simp only [List.getElem?_cons_zero, Option.some.injEq] at e
    exact ⟨_, rfl, e ▸ h⟩
  | _, _, i + 1, d, .cons _ t, e => by
    obtain ⟨v, h1, h2⟩ := DqAll.getd (i := i) t (by simpa using e)
    exact ⟨v, by simpa using h1, h2⟩
theorem DqAll.snoc : ∀ {vs : List V} {ds : List PyData} {v : V} {d : PyData}, DqAll K H vs ds → Dq K H v d → DqAll K H (vs ++ [v]) (ds ++ [d])
  | _, _, _, _, .nil, h => .cons h .nil
  | _, _, _, _, .cons h t, h2 => .cons h (DqAll.snoc t h2)
theorem DqAll.ints : ∀ {ns : List Int}, DqAll K H (ns.map V.int) (ns.map PyData.int)
  | [] => .nil
  | n :: ns => .cons (.int n) DqAll.ints
theorem DqAll.ints_eq : ∀ {ns : List Int} {vs : List V}, DqAll K H vs (ns.map PyData.int) → vs = ns.map V.int
  | [], _, h => by cases h; rfl
  | n :: ns, _, h => by
    cases h with
    | cons h1 h2 =>
      cases h1
      rw [DqAll.ints_eq h2]
      rfl
end

/-! ### the law's box of draws -/
def BoxAt (H : Hp) (b : Addr) (c : Nat) : Prop := ∃ x y z : Int, H b = some (.lst [.int x, .int y, .int z]) ∧ 0 ≤ x ∧ 0 ≤ y ∧ y < 2 ^ 62 ∧ 0 ≤ z ∧ z ≤ (c : Int)
theorem BoxAt.mono {H : Hp} {b : Addr} {c d : Nat} (h : BoxAt H b c) (hc : c ≤ d) : BoxAt H b d := by
  obtain ⟨x, y, z, h1, h2, h3, h4, h5, h6⟩ := h
  exact ⟨x, y, z, h1, h2, h3, h4, h5, by omega⟩
theorem BoxAt.ex {H H' : Hp} {b : Addr} {c : Nat} (e : Ex H H') (h : BoxAt H b c) : BoxAt H' b c := by
  obtain ⟨x, y, z, h1, r⟩ := h
  exact ⟨x, y, z, e _ _ h1, r⟩
theorem BoxAt.upd {H : Hp} {b p : Addr} {c : Nat} {o : HO} (h : BoxAt H b c) (n : b ≠ p) : BoxAt (upd H p o) b c := by
  obtain ⟨x, y, z, h1, r⟩ := h
  exact ⟨x, y, z, by rw [upd_ne n]; exact h1, r⟩
theorem BoxAt.some {H : Hp} {b : Addr} {c : Nat} (h : BoxAt H b c) : ∃ o, H b = some o := by
  obtain ⟨x, y, z, h1, _⟩ := h
  exact ⟨_, h1⟩
theorem BoxAt.ne {H : Hp} {b p : Addr} {c : Nat} (h : BoxAt H b c) (n : H p = none) : b ≠ p := by
  obtain ⟨o, e⟩ := h.some
  exact ne_of_none e n
/-- what drawing does: the box alone is otherwise -/
structure Bx (b : Addr) (c : Nat) (H H' : Hp) : Prop where
  x : Xs [b] H H'
  at_ : BoxAt H' b c
theorem Bx.trans {b : Addr} {c d : Nat} {H H1 H2 : Hp} (h1 : Bx b c H H1) (h2 : Bx b d H1 H2) : Bx b d H H2 := ⟨h1.x.trans h2.x, h2.at_⟩
theorem Bx.refl {b : Addr} {c : Nat} {H : Hp} (h : BoxAt H b c) : Bx b c H H := ⟨Xs.refl, h⟩
theorem Bx.mono {b : Addr} {c d : Nat} {H H' : Hp} (h : Bx b c H H') (hc : c ≤ d) : Bx b d H H' := ⟨h.x, h.at_.mono hc⟩
theorem Bx.ext {b : Addr} {c : Nat} {H H1 H2 : Hp} (h : Bx b c H H1) (e : Ex H1 H2) : Bx b c H H2 := ⟨h.x.trans (Xs.of e), h.at_.ex e⟩
theorem Bx.pre {b : Addr} {c : Nat} {H H1 H2 : Hp} (e : Ex H H1) (h : Bx b c H1 H2) : Bx b c H H2 := ⟨(Xs.of e).trans h.x, h.at_⟩
theorem Bx.free {b p : Addr} {c : Nat} {H H' : Hp} (h : Bx b c H H') (n : H' p = none) : H p = none := by
  cases e : H p with
  | none => rfl
  | some o =>
    by_cases m : p = b
    · subst m
      obtain ⟨u, e2⟩ := h.at_.some
      rw [e2] at n
      cases n
    · rw [h.x p o (fun q => m (List.mem_singleton.mp q)) e] at n
      cases n
theorem Bx.at {b p : Addr} {c : Nat} {H H' : Hp} {o : HO} (h : Bx b c H H') (n : p ≠ b) (e : H p = some o) : H' p = some o := h.x p o (fun q => n (List.mem_singleton.mp q)) e

/-! ### a def of the text -/
structure Dfn (K : PySem.W.Frag) (mg : Str → Option Value) (x : Str) (st : Stmt) (ps : List Str) (f : Addr) (fd : FuncData) : Prop where
  F : Fun K x x st f fd
  g : mg x = some (.ref f)
  b : Binds K fd ps []
end Pw

/-! ## PwWeb -/
namespace Pw
open PySem L2 Evl PySem.W

/-! ### webs -/
abbrev Tie := Int × Int × Int
def tieD (t : Tie) : PyData := .tuple [.int t.1, .int t.2.1, .int t.2.2]
def webD (n : Int) (ts : List Tie) : PyData := .tuple [.int n, .tuple (ts.map tieD)]
def pairLt (s t : Tie) : Prop := s.1 < t.1 ∨ s.1 = t.1 ∧ s.2.1 < t.2.1
structure WebOk (n : Int) (ts : List Tie) : Prop where
  pos : 1 ≤ n
  tie : ∀ t ∈ ts, 0 ≤ t.1 ∧ t.1 < t.2.1 ∧ t.2.1 < n ∧ 1 ≤ t.2.2 ∧ t.2.2 ≤ t.2.2
  rise : ts.Pairwise pairLt
  len : ts.length ≤ 100

/-! ### the order of tuples of ints -/
theorem leTI_eq (b c : Addr × List Int) : leTI b c = decide (b.2 ≤ c.2) := by
  show (!dataLt (.tuple (c.2.map .int)) (.tuple (b.2.map .int))) = _
  rw [dataLt_tuple]
  show (!rowLt (c.2.map .int) (b.2.map .int)) = _
  rw [dataLt_ints]
  by_cases h : c.2 < b.2
  · have h' : ¬ b.2 ≤ c.2 := fun r => List.not_lt.mpr r h
    simp [h, h']
  · have h' : b.2 ≤ c.2 := List.not_lt.mp h
    simp [h, h']
theorem sortTI_perm (bs : List (Addr × List Int)) : (bs.mergeSort leTI).Perm bs := List.mergeSort_perm _ _
theorem sortTI_le (bs : List (Addr × List Int)) : (bs.mergeSort leTI).Pairwise (fun b c => b.2 ≤ c.2) := by
  refine (List.pairwise_mergeSort (le := leTI) (fun a b c h1 h2 => ?_) (fun a b => ?_) bs).imp fun {a b} h => ?_
  · rw [leTI_eq] at h1 h2 ⊢
    exact decide_eq_true (List.le_trans (of_decide_eq_true h1) (of_decide_eq_true h2))
  · rw [leTI_eq, leTI_eq, Bool.or_eq_true]
    rcases List.le_total a.2 b.2 with h | h
    · exact .inl (decide_eq_true h)
    · exact .inr (decide_eq_true h)
  · rw [leTI_eq] at h
    exact of_decide_eq_true h
theorem pair_le {a b c d : Int} (h : [a, b] ≤ [c, d]) : a < c ∨ a = c ∧ b ≤ d := by
  have h2 : ¬ [c, d] < [a, b] := List.not_lt.mpr h
  rw [List.cons_lt_cons_iff, List.cons_lt_cons_iff] at h2
  simp at h2
  omega

/-! ### ties in a dict -/
def kPair (a b : Int) : List Key := [.inl a, .inl b]
def TieKvs (n : Int) (kvs : List (List Key × V)) : Prop := (∀ p ∈ kvs, ∃ a b w : Int, p = (kPair a b, .int w) ∧ 0 ≤ a ∧ a < b ∧ b < n ∧ 1 ≤ w ∧ w ≤ w) ∧ (kvs.map (·.1)).Nodup
theorem TieKvs.nil {n : Int} : TieKvs n [] := ⟨(fun p h => by cases h), List.nodup_nil⟩
theorem putK_mem {κ : Type} [DecidableEq κ] {kvs : List (κ × V)} {k : κ} {v : V} {p : κ × V} (h : p ∈ putK kvs k v) : p ∈ kvs ∨ p = (k, v) := by
  unfold putK at h
  by_cases a : (kvs.any fun kv => decide (kv.1 = k)) = true
  · rw [if_pos a] at h
    obtain ⟨q, hq, rfl⟩ := List.mem_map.mp h
    by_cases e : q.1 = k
    · rw [if_pos e, e]; exact .inr rfl
    · rw [if_neg e]; exact .inl hq
  · rw [if_neg a] at h
    rcases List.mem_append.mp h with h | h
    · exact .inl h
    · exact .inr (List.mem_singleton.mp h)
theorem putK_keys {κ : Type} [DecidableEq κ] {kvs : List (κ × V)} {k : κ} {v : V} (h : (kvs.map (·.1)).Nodup) : ((putK kvs k v).map (·.1)).Nodup := by
  by_cases a : (kvs.any fun kv => decide (kv.1 = k)) = true
  · have e : (putK kvs k v).map (·.1) = kvs.map (·.1) := by
      unfold putK
      rw [if_pos a, List.map_map]
      refine List.map_congr_left fun q _ => ?_
      show (if q.1 = k then (q.1, v) else q).1 = q.1
      by_cases e : q.1 = k
      · rw [if_pos e]
      · rw [if_neg e]
    rw [e]
    exact h
  · rw [valV_any] at a
    exact nd_putK v h (by simpa using a)
theorem TieKvs.put {n a b w : Int} {kvs : List (List Key × V)} (h : TieKvs n kvs) (h1 : 0 ≤ a) (h2 : a < b) (h3 : b < n) (h4 : 1 ≤ w) (h5 : w ≤ w) : TieKvs n (putK kvs (kPair a b) (.int w)) :=
  ⟨fun p hp => (putK_mem hp).elim (h.1 p) fun e => ⟨a, b, w, e, h1, h2, h3, h4, h5⟩, putK_keys h.2⟩
theorem valV_mem {κ : Type} [DecidableEq κ] : ∀ {kvs : List (κ × V)} {p : κ × V}, (kvs.map (·.1)).Nodup → p ∈ kvs → valV kvs p.1 = some p.2
  | [], _, _, h => by cases h
  | q :: r, p, hn, h => by
    rw [List.map_cons, List.nodup_cons] at hn
    rcases List.mem_cons.mp h with rfl | h
    · exact valV_pos rfl
    · rw [valV_neg (fun e => hn.1 (by rw [e]; exact List.mem_map.mpr ⟨p, h, rfl⟩))]
      exact valV_mem hn.2 h
/-- the keys of such a dict as lists of ints -/
theorem TieKvs.keys : ∀ {n : Int} {kvs : List (List Key × V)}, (∀ p ∈ kvs, ∃ a b w : Int, p = (kPair a b, .int w) ∧ 0 ≤ a ∧ a < b ∧ b < n ∧ 1 ≤ w ∧ w ≤ w) →
    ∃ ks : List (List Int), kvs.map (·.1) = ks.map (·.map Sum.inl) ∧ ks.length = kvs.length ∧ ∀ k ∈ ks, ∃ a b, k = [a, b]
  | _, [], _ => ⟨[], rfl, rfl, fun k h => by cases h⟩
  | n, p :: r, h => by
    obtain ⟨ks, h1, h2, h3⟩ := TieKvs.keys (n := n) (kvs := r) fun q hq => h q (List.mem_cons_of_mem _ hq)
    obtain ⟨a, b, w, rfl, _⟩ := h p List.mem_cons_self
    refine ⟨[a, b] :: ks, ?_, by rw [List.length_cons, List.length_cons, h2], fun k hk => ?_⟩
    · rw [List.map_cons, List.map_cons, h1]
      rfl
    · rcases List.mem_cons.mp hk with rfl | hk
      · exact ⟨a, b, rfl⟩
      · exact h3 k hk
/-- the tie of a key -/
def tieOf (kvs : List (List Key × V)) (k : List Int) : Tie := (k.getD 0 0, k.getD 1 0, match valV kvs (k.map Sum.inl) with | some (.int w) => w | _ => 0)
theorem TieKvs.at {n : Int} {kvs : List (List Key × V)} {ks : List (List Int)} (h : TieKvs n kvs) (e : kvs.map (·.1) = ks.map (·.map Sum.inl)) {k : List Int} (hk : k ∈ ks) :
    ∃ a b w : Int, k = [a, b] ∧ valV kvs (k.map Sum.inl) = some (.int w) ∧ tieOf kvs k = (a, b, w) ∧ 0 ≤ a ∧ a < b ∧ b < n ∧ 1 ≤ w ∧ w ≤ w := by
  have h1 : k.map Sum.inl ∈ kvs.map (·.1) := by rw [e]; exact List.mem_map.mpr ⟨k, hk, rfl⟩
  obtain ⟨p, hp, e1⟩ := List.mem_map.mp h1
  obtain ⟨a, b, w, rfl, r⟩ := h.1 p hp
  have e2 : k = [a, b] := by
    have e3 : kPair a b = k.map Sum.inl := e1
    unfold kPair at e3
    match k, e3 with
    | [x, y], e3 =>
      simp only [List.map_cons, List.map_nil, List.cons.injEq, Sum.inl.injEq] at e3
      rw [e3.1, e3.2.1]
  have e4 : valV kvs (k.map Sum.inl) = some (.int w) := by
    rw [← e1]
    exact valV_mem h.2 hp
  refine ⟨a, b, w, e2, e4, ?_, r⟩
  unfold tieOf
  rw [e4, e2]
  rfl
theorem nodup_of_map {α β : Type} (f : α → β) : ∀ {l : List α}, (l.map f).Nodup → l.Nodup
  | [], _ => List.nodup_nil
  | a :: r, h => by
    rw [List.map_cons, List.nodup_cons] at h
    exact List.nodup_cons.mpr ⟨fun m => h.1 (List.mem_map.mpr ⟨a, m, rfl⟩), nodup_of_map f h.2⟩
/-- the sorted ties of a dict are a web's -/
theorem web_of {n : Int} {kvs : List (List Key × V)} {bs : List (Addr × List Int)} (hn : 1 ≤ n) (h : TieKvs n kvs) (e : kvs.map (·.1) = (bs.map (·.2)).map (·.map Sum.inl)) (hl : kvs.length ≤ 100) :
    WebOk n ((bs.mergeSort leTI).map fun b => tieOf kvs b.2) := by
  have hm : ∀ {b : Addr × List Int}, b ∈ bs.mergeSort leTI → b.2 ∈ bs.map (·.2) := fun {b} hb => List.mem_map.mpr ⟨b, (sortTI_perm bs).mem_iff.mp hb, rfl⟩
  have hnd : (bs.map (·.2)).Nodup := by
    have h2 := h.2
    rw [e] at h2
    exact nodup_of_map _ h2
  have hnd2 : ((bs.mergeSort leTI).map (·.2)).Nodup := ((sortTI_perm bs).map (·.2)).nodup_iff.mpr hnd
  refine ⟨hn, fun t ht => ?_, ?_, ?_⟩
  · obtain ⟨b, hb, rfl⟩ := List.mem_map.mp ht
    obtain ⟨a, b', w, e1, e2, e3, r⟩ := h.at e (hm hb)
    rw [e3]
    exact r
  · rw [List.pairwise_map]
    have p1 := sortTI_le bs
    have p2 : (bs.mergeSort leTI).Pairwise (fun b c => b.2 ≠ c.2) := by
      exact List.pairwise_map.mp hnd2
    refine ((p1.and p2).imp_of_mem fun {b c} hb hc ⟨q1, q2⟩ => ?_)
    obtain ⟨x, y, w, e1, _, e3, _⟩ := h.at e (hm hb)
    obtain ⟨x', y', w', e1', _, e3', _⟩ := h.at e (hm hc)
    rw [e3, e3']
    rw [e1, e1'] at q1 q2
    have q3 := pair_le q1
    unfold pairLt
    show x < x' ∨ x = x' ∧ y < y'
    have q4 : ¬ (x = x' ∧ y = y') := fun z => q2 (by rw [z.1, z.2])
    omega
  · have e5 := congrArg List.length e
    simp only [List.length_map] at e5
    rw [List.length_map, List.length_mergeSort]
    omega

/-! ### new data -/
theorem Dq.newTup {K : PySem.W.Frag} {H : Hp} {S : List Addr} {p : Addr} {vs : List V} {ds : List PyData} (hp : H p = none) (hS : p ∉ S) (h : DqAll K (mi H S) vs ds) : Dq K (mi (upd H p (.tup vs)) S) (.ref p) (.tuple ds) := by
  refine .tup (by rw [mi_at hS]; exact upd_same) (DqAll.mono (ex_mi ?_ fun a m => mi_no m) h)
  exact mi_ex.trans (Ex.new hp)
theorem Dq.newLst {K : PySem.W.Frag} {H : Hp} {S : List Addr} {p : Addr} {vs : List V} {ds : List PyData} (hp : H p = none) (hS : p ∉ S) (h : DqAll K (mi H S) vs ds) : Dq K (mi (upd H p (.lst vs)) S) (.ref p) (.list ds) := by
  refine .lst (sq_of (by rw [mi_at hS]; exact upd_same)) (DqAll.mono (ex_mi ?_ fun a m => mi_no m) h)
  exact mi_ex.trans (Ex.new hp)
theorem Bx.own {b d : Addr} {c : Nat} {H H' : Hp} {o : HO} (h : Bx b c H H') (n : H d = none) (nb : b ≠ d) : Bx b c H (upd H' d o) := by
  refine ⟨fun a u m e => ?_, h.at_.upd nb⟩
  rw [upd_ne (ne_of_none e n)]
  exact h.x a u m e
theorem Bx.new {b p : Addr} {c : Nat} {H H' : Hp} {o : HO} (h : Bx b c H H') (n : H' p = none) : Bx b c H (upd H' p o) := h.ext (Ex.new n)
theorem ex_mim {H H' : Hp} {S : List Addr} (e : Ex H H') : Ex (mi H S) (mi H' S) := ex_mi (mi_ex.trans e) fun a m => mi_no m
theorem ex_miw {H : Hp} {S T : List Addr} (h : ∀ a ∈ S, a ∈ T) : Ex (mi H T) (mi H S) := ex_mi mi_ex fun a m => mi_no (h a m)
end Pw

/-! ## PwEv -/
namespace Pw
open PySem L2 Evl

/-! ### worlds: what is told and stays (B), what is one's own and may change (S) -/
structure Wd (S : List Addr) (B H : Hp) : Prop where
  ex : Ex B H
  no : ∀ s ∈ S, B s = none
  at_ : ∀ s ∈ S, ∃ o, H s = some o
section
variable {S T : List Addr} {B B' H H' : Hp} {p l : Addr} {o : HO}
theorem Wd.ext (w : Wd S B H) (e : Ex H H') : Wd S B H' := ⟨w.ex.trans e, w.no, fun s m => by
  obtain ⟨o, h⟩ := w.at_ s m
  exact ⟨o, e _ _ h⟩⟩
theorem Wd.fresh (w : Wd S B H) (h : H p = none) : B p = none := fresh_back w.ex h
theorem Wd.nin (w : Wd S B H) (h : H p = none) : p ∉ S := fun m => by
  obtain ⟨o, e⟩ := w.at_ p m
  rw [h] at e
  cases e
theorem Wd.new (w : Wd S B H) (h : H p = none) : Wd S (upd B p o) (upd H p o) := by
  refine ⟨fun a u e => ?_, fun s m => ?_, fun s m => ?_⟩
  · by_cases q : a = p
    · subst q
      rw [upd_same] at e ⊢
      exact e
    · rw [upd_ne q] at e ⊢
      exact w.ex a u e
  · rw [upd_ne (fun q => w.nin h (by rw [← q]; exact m))]
    exact w.no s m
  · rw [upd_ne (fun q => w.nin h (by rw [← q]; exact m))]
    exact w.at_ s m
theorem Wd.newE (w : Wd S B H) (h : H p = none) : Ex B (upd B p o) := Ex.new (w.fresh h)
theorem Wd.own (w : Wd S B H) (h : H p = none) : Wd (p :: S) B (upd H p o) := by
  refine ⟨ex_upd w.ex (w.fresh h), fun s m => ?_, fun s m => ?_⟩
  · rcases List.mem_cons.mp m with rfl | m
    · exact w.fresh h
    · exact w.no s m
  · rcases List.mem_cons.mp m with rfl | m
    · exact ⟨_, upd_same⟩
    · rw [upd_ne (fun q => w.nin h (by rw [← q]; exact m))]
      exact w.at_ s m
theorem Wd.put (w : Wd S B H) (h : p ∈ S) : Wd S B (upd H p o) := by
  refine ⟨ex_upd w.ex (w.no p h), w.no, fun s m => ?_⟩
  by_cases q : s = p
  · rw [q]; exact ⟨_, upd_same⟩
  · rw [upd_ne q]; exact w.at_ s m
theorem Wd.weak (w : Wd S B H) (h : ∀ a ∈ T, a ∈ S) : Wd T B H := ⟨w.ex, fun s m => w.no s (h s m), fun s m => w.at_ s (h s m)⟩
theorem Wd.tail (w : Wd (l :: S) B H) : Wd S B H := w.weak fun a m => List.mem_cons_of_mem _ m
theorem Wd.back (w : Wd S B H) (e : Ex B' B) : Wd S B' H := ⟨e.trans w.ex, fun s m => fresh_back e (w.no s m), w.at_⟩
theorem Wd.give (w : Wd (l :: S) B H) (h : H l = some o) (n : l ∉ S) : Wd S (upd B l o) H := by
  refine ⟨fun a u e => ?_, fun s m => ?_, fun s m => w.at_ s (List.mem_cons_of_mem _ m)⟩
  · by_cases q : a = l
    · subst q
      rw [upd_same] at e
      rw [h]
      exact e
    · rw [upd_ne q] at e
      exact w.ex a u e
  · rw [upd_ne (fun q => n (by rw [← q]; exact m))]
    exact w.no s (List.mem_cons_of_mem _ m)
theorem Wd.giveE (w : Wd (l :: S) B H) : Ex B (upd B l o) := Ex.new (w.no l List.mem_cons_self)
end

theorem Wd.step {S : List Addr} {B H H' : Hp} (w : Wd S B H) (e : Ex H H') : Wd S (mi H' S) H' := ⟨mi_ex, fun s m => mi_no m, fun s m => (w.ext e).at_ s m⟩
theorem Wd.stepE {S : List Addr} {B H H' : Hp} (w : Wd S B H) (e : Ex H H') : Ex B (mi H' S) := ex_mi (w.ex.trans e) w.no

/-! ### what evaluates to what, made of what is told -/
def EvR (te : TE) (σ : L2.St) (B : Hp) (R : V → Hp → Prop) : Prop := ∀ S H, Wd S B H → ∀ Q : VK, (∀ v H', Ex H H' → R v (mi H' S) → Q v H') → te σ H Q
abbrev EvD (K : PySem.W.Frag) (te : TE) (σ : L2.St) (B : Hp) (d : PyData) : Prop := EvR te σ B fun v B' => Dq K B' v d
abbrev EvV (te : TE) (σ : L2.St) (B : Hp) (v : V) : Prop := EvR te σ B fun v' _ => v' = v
def EvB (tt : TT) (σ : L2.St) (B : Hp) (b : Bool) : Prop := ∀ S H, Wd S B H → ∀ Q : Bool → Hp → Prop, (∀ H', Ex H H' → Q b H') → tt σ H Q
def EvAR (ta : TA) (σ : L2.St) (B : Hp) (R : List V → Hp → Prop) : Prop := ∀ S H, Wd S B H → ∀ Q : List V → Hp → Prop, (∀ vs H', Ex H H' → R vs (mi H' S) → Q vs H') → ta σ H Q
abbrev EvAD (K : PySem.W.Frag) (ta : TA) (σ : L2.St) (B : Hp) (ds : List PyData) : Prop := EvAR ta σ B fun vs B' => DqAll K B' vs ds
/-- a relation that stays -/
def Stays {α : Type} (R : α → Hp → Prop) : Prop := ∀ v B B', Ex B B' → R v B → R v B'
theorem stays_dp {K : PySem.W.Frag} {d : PyData} : Stays fun v B => Dq K B v d := fun v B B' e h => Dq.mono e h
theorem stays_dps {K : PySem.W.Frag} {ds : List PyData} : Stays fun vs B => DqAll K B vs ds := fun v B B' e h => DqAll.mono e h
theorem stays_eq {u : V} : Stays fun v (_ : Hp) => v = u := fun _ _ _ _ h => h

section
variable {K : PySem.W.Frag} {σ : L2.St} {B B' H : Hp} {S : List Addr} {te ta tb : TE} {tt tu : TT} {tA : TA} {d d' : PyData} {ds : List PyData} {v : V} {R R' R1 R2' : V → Hp → Prop} {b c : Bool}
theorem EvR.mono (e : Ex B B') (h : EvR te σ B R) : EvR te σ B' R := fun S H w Q q => h S H (w.back e) Q q
theorem EvB.mono (e : Ex B B') (h : EvB tt σ B b) : EvB tt σ B' b := fun S H w Q q => h S H (w.back e) Q q
theorem EvAR.mono {R : List V → Hp → Prop} (e : Ex B B') (h : EvAR tA σ B R) : EvAR tA σ B' R := fun S H w Q q => h S H (w.back e) Q q
theorem EvR.imp (h : EvR te σ B R) (i : ∀ v B', R v B' → R' v B') : EvR te σ B R' := fun S H w Q q => h S H w Q fun v H' e r => q v H' e (i _ _ r)
/-- in sequence -/
theorem EvR.bind (h : EvR te σ B R) {Q : VK} (w : Wd S B H) (k : ∀ v B' H', Ex H H' → Ex B B' → Wd S B' H' → R v B' → Q v H') : te σ H Q :=
  h S H w Q fun v H' e r => k v _ H' e (w.stepE e) (w.step e) r
theorem EvB.bind (h : EvB tt σ B b) {Q : Bool → Hp → Prop} (w : Wd S B H) (k : ∀ B' H', Ex H H' → Ex B B' → Wd S B' H' → Q b H') : tt σ H Q :=
  h S H w Q fun H' e => k _ H' e (w.stepE e) (w.step e)
theorem EvAR.bind {R : List V → Hp → Prop} (h : EvAR tA σ B R) {Q : List V → Hp → Prop} (w : Wd S B H) (k : ∀ vs B' H', Ex H H' → Ex B B' → Wd S B' H' → R vs B' → Q vs H') : tA σ H Q :=
  h S H w Q fun v H' e r => k v _ H' e (w.stepE e) (w.step e) r
theorem evR_of (h : ∀ S H, Wd S B H → ∀ Q : VK, (∀ v B' H', Ex H H' → Ex B B' → Wd S B' H' → R v B' → Q v H') → te σ H Q) (st : Stays R) : EvR te σ B R := fun S H w Q q =>
  h S H w Q fun v B' H' e eB w' r => q v H' e (st _ _ _ (ex_mi w'.ex w'.no) r)
theorem evB_of (h : ∀ S H, Wd S B H → ∀ Q : Bool → Hp → Prop, (∀ B' H', Ex H H' → Ex B B' → Wd S B' H' → Q b H') → tt σ H Q) : EvB tt σ B b := fun S H w Q q => h S H w Q fun B' H' e _ _ => q H' e

/-! #### names, constants, numbers -/
theorem ev_var {i : Nat} (h : σ[i]? = some (some v)) (hd : Dq K B v d) : EvD K (tVar i) σ B d := evR_of (fun S H w Q q => ⟨v, h, q v B H (Ex.refl H) (Ex.refl B) w hd⟩) stays_dp
theorem ev_varV {i : Nat} (h : σ[i]? = some (some v)) : EvV (tVar i) σ B v := evR_of (fun S H w Q q => ⟨v, h, q v B H (Ex.refl H) (Ex.refl B) w rfl⟩) stays_eq
theorem ev_c (hd : Dq K B v d) : EvD K (tC v) σ B d := evR_of (fun S H w Q q => q v B H (Ex.refl H) (Ex.refl B) w hd) stays_dp
theorem ev_int {i : Int} : EvD K (tC (.int i)) σ B (.int i) := ev_c (.int i)
theorem ev_bl : EvD K (tC (.bl b)) σ B (.bool b) := ev_c (.bl b)
theorem ev_non : EvD K (tC .non) σ B .none := ev_c .non
theorem ev_str {x : Str} : EvD K (tC (.str x)) σ B (.str x) := ev_c (.str x)
/-- an operator by values that makes no object -/
theorem ev_op {r : R2} (ha : EvD K ta σ B d) (hb : EvD K tb σ B d') (hr : ∀ x y B' H' (Q : VK), Dq K B' x d → Dq K B' y d' → Ex B' H' → (∀ v, R v B' → Q v H') → r x y H' Q) (st : Stays R) : EvR (tOp r ta tb) σ B R :=
  evR_of (fun S H w Q q => ha.bind w fun x B1 H1 e1 eB1 w1 rx => (hb.mono eB1).bind w1 fun y B2 H2 e2 eB2 w2 ry =>
    hr x y B2 H2 Q (Dq.mono eB2 rx) ry w2.ex fun v rv => q v B2 H2 (e1.trans e2) (eB1.trans eB2) w2 rv) st
theorem ev_I0 {g : Int → Int → V} {i j : Int} (ha : EvD K ta σ B (.int i)) (hb : EvD K tb σ B (.int j)) (hd : ∀ B', Dq K B' (g i j) d) : EvD K (tOp (rI0 g) ta tb) σ B d :=
  ev_op ha hb (fun x y B' H' Q hx hy _ q => by cases hx; cases hy; exact ⟨i, j, rfl, rfl, q _ (hd _)⟩) stays_dp
theorem ev_I {C : Int → Int → Prop} {g : Int → Int → V} {i j : Int} (ha : EvD K ta σ B (.int i)) (hb : EvD K tb σ B (.int j)) (hc : C i j) (hd : ∀ B', Dq K B' (g i j) d) : EvD K (tOp (rI C g) ta tb) σ B d :=
  ev_op ha hb (fun x y B' H' Q hx hy _ q => by cases hx; cases hy; exact ⟨i, j, rfl, rfl, hc, q _ (hd _)⟩) stays_dp
theorem ev_add {i j : Int} (ha : EvD K ta σ B (.int i)) (hb : EvD K tb σ B (.int j)) : EvD K (tOp (rI0 fun i j => .int (i + j)) ta tb) σ B (.int (i + j)) := ev_I0 ha hb fun _ => .int _
theorem ev_sub {i j : Int} (ha : EvD K ta σ B (.int i)) (hb : EvD K tb σ B (.int j)) : EvD K (tOp (rI0 fun i j => .int (i - j)) ta tb) σ B (.int (i - j)) := ev_I0 ha hb fun _ => .int _
theorem ev_mul {i j : Int} (ha : EvD K ta σ B (.int i)) (hb : EvD K tb σ B (.int j)) (hc : CMul i j) : EvD K (tOp (rI CMul fun i j => .int (i * j)) ta tb) σ B (.int (i * j)) := ev_I ha hb hc fun _ => .int _
theorem ev_mod {i j : Int} (ha : EvD K ta σ B (.int i)) (hb : EvD K tb σ B (.int j)) (hc : 0 < j) : EvD K (tOp (rI (fun _ j => 0 < j) fun i j => .int (i % j)) ta tb) σ B (.int (i % j)) := ev_I ha hb hc fun _ => .int _
theorem ev_div {C : Int → Int → Prop} {i j : Int} (ha : EvD K ta σ B (.int i)) (hb : EvD K tb σ B (.int j)) (hc : C i j) : EvD K (tOp (rI C fun i j => .int (i / j)) ta tb) σ B (.int (i / j)) := ev_I ha hb hc fun _ => .int _
theorem ev_cmp {g : Int → Int → Bool} {i j : Int} (ha : EvD K ta σ B (.int i)) (hb : EvD K tb σ B (.int j)) : EvD K (tOp (rI0 fun i j => .bl (g i j)) ta tb) σ B (.bool (g i j)) := ev_I0 ha hb fun _ => .bl _
theorem ev_neg {i : Int} (ha : EvD K ta σ B (.int i)) : EvD K (tUn (rU fun i => .int (-i)) ta) σ B (.int (-i)) :=
  evR_of (fun S H w Q q => ha.bind w fun x B1 H1 e1 eB1 w1 rx => by cases rx; exact ⟨i, rfl, q _ B1 H1 e1 eB1 w1 (.int _)⟩) stays_dp
theorem ev_eqI {i j : Int} (ha : EvD K ta σ B (.int i)) (hb : EvD K tb σ B (.int j)) : EvD K (tOp rEq ta tb) σ B (.bool (decide (i = j))) :=
  ev_op ha hb (fun x y B' H' Q hx hy _ q => by
    cases hx; cases hy
    refine ⟨rfl, ?_⟩
    have e : decide (V.int i = V.int j) = decide (i = j) := by simp
    rw [e]
    exact q _ (.bl _)) stays_dp
theorem ev_neI {i j : Int} (ha : EvD K ta σ B (.int i)) (hb : EvD K tb σ B (.int j)) : EvD K (tOp rNe ta tb) σ B (.bool (!decide (i = j))) :=
  ev_op ha hb (fun x y B' H' Q hx hy _ q => by
    cases hx; cases hy
    refine ⟨rfl, ?_⟩
    have e : decide (V.int i = V.int j) = decide (i = j) := by simp
    rw [e]
    exact q _ (.bl _)) stays_dp
theorem ev_eqB {i j : Bool} (ha : EvD K ta σ B (.bool i)) (hb : EvD K tb σ B (.bool j)) : EvD K (tOp rEq ta tb) σ B (.bool (i == j)) :=
  ev_op ha hb (fun x y B' H' Q hx hy _ q => by
    cases hx; cases hy
    refine ⟨rfl, ?_⟩
    have e : decide (V.bl i = V.bl j) = (i == j) := by cases i <;> cases j <;> rfl
    rw [e]
    exact q _ (.bl _)) stays_dp
theorem ev_neB {i j : Bool} (ha : EvD K ta σ B (.bool i)) (hb : EvD K tb σ B (.bool j)) : EvD K (tOp rNe ta tb) σ B (.bool (i != j)) :=
  ev_op ha hb (fun x y B' H' Q hx hy _ q => by
    cases hx; cases hy
    refine ⟨rfl, ?_⟩
    have e : (!decide (V.bl i = V.bl j)) = (i != j) := by cases i <;> cases j <;> rfl
    rw [e]
    exact q _ (.bl _)) stays_dp
theorem ev_is (h : EvD K te σ B d) (e : d = d') : EvD K te σ B d' := by rw [← e]; exact h

/-! #### tests -/
theorem eb_test (h : EvD K te σ B (.bool b)) : EvB (tTest te) σ B b := evB_of fun S H w Q q => h.bind w fun x B1 H1 e1 eB1 w1 rx => by cases rx; exact ⟨b, rfl, q B1 H1 e1 eB1 w1⟩
theorem eb_B (h : EvD K te σ B (.bool b)) : EvB (tB te) σ B b := evB_of fun S H w Q q => h.bind w fun x B1 H1 e1 eB1 w1 rx => by cases rx; exact ⟨b, rfl, q B1 H1 e1 eB1 w1⟩
theorem eb_not (h : EvB tt σ B b) : EvB (tNot tt) σ B (!b) := evB_of fun S H w Q q => h.bind w fun B1 H1 e1 eB1 w1 => q B1 H1 e1 eB1 w1
theorem eb_and (h : EvB tt σ B b) (h2 : b = true → EvB tu σ B c) : EvB (tAnd tt tu) σ B (b && c) := evB_of fun S H w Q q => h.bind w fun B1 H1 e1 eB1 w1 => by
  cases b with
  | true => exact ((h2 rfl).mono eB1).bind w1 fun B2 H2 e2 eB2 w2 => q B2 H2 (e1.trans e2) (eB1.trans eB2) w2
  | false => exact q B1 H1 e1 eB1 w1
theorem eb_or (h : EvB tt σ B b) (h2 : b = false → EvB tu σ B c) : EvB (tOr tt tu) σ B (b || c) := evB_of fun S H w Q q => h.bind w fun B1 H1 e1 eB1 w1 => by
  cases b with
  | false => exact ((h2 rfl).mono eB1).bind w1 fun B2 H2 e2 eB2 w2 => q B2 H2 (e1.trans e2) (eB1.trans eB2) w2
  | true => exact q B1 H1 e1 eB1 w1
theorem eb_yes : EvB tYes σ B true := fun S H w Q q => q H (Ex.refl H)
theorem eb_is (h : EvB tt σ B b) (e : b = c) : EvB tt σ B c := by rw [← e]; exact h
theorem ev_and (h : EvD K ta σ B (.bool b)) (h2 : b = true → EvD K tb σ B (.bool c)) : EvD K (tAndV ta tb) σ B (.bool (b && c)) := evR_of (fun S H w Q q => h.bind w fun x B1 H1 e1 eB1 w1 rx => by
  cases rx
  refine ⟨b, rfl, ?_⟩
  cases b with
  | true => exact ((h2 rfl).mono eB1).bind w1 fun y B2 H2 e2 eB2 w2 ry => q y B2 H2 (e1.trans e2) (eB1.trans eB2) w2 ry
  | false => exact q _ B1 H1 e1 eB1 w1 (.bl _)) stays_dp
theorem ev_or (h : EvD K ta σ B (.bool b)) (h2 : b = false → EvD K tb σ B (.bool c)) : EvD K (tOrV ta tb) σ B (.bool (b || c)) := evR_of (fun S H w Q q => h.bind w fun x B1 H1 e1 eB1 w1 rx => by
  cases rx
  refine ⟨b, rfl, ?_⟩
  cases b with
  | false => exact ((h2 rfl).mono eB1).bind w1 fun y B2 H2 e2 eB2 w2 ry => q y B2 H2 (e1.trans e2) (eB1.trans eB2) w2 ry
  | true => exact q _ B1 H1 e1 eB1 w1 (.bl _)) stays_dp
theorem ev_not (h : EvD K ta σ B (.bool b)) : EvD K (tNotV ta) σ B (.bool (!b)) := evR_of (fun S H w Q q => h.bind w fun x B1 H1 e1 eB1 w1 rx => by cases rx; exact ⟨b, rfl, q _ B1 H1 e1 eB1 w1 (.bl _)⟩) stays_dp
theorem ev_if (h : EvB tt σ B b) (h1 : b = true → EvR ta σ B R) (h2 : b = false → EvR tb σ B R) (st : Stays R) : EvR (tIf tt ta tb) σ B R := evR_of (fun S H w Q q => h.bind w fun B1 H1 e1 eB1 w1 => by
  cases b with
  | true => exact ((h1 rfl).mono eB1).bind w1 fun y B2 H2 e2 eB2 w2 ry => q y B2 H2 (e1.trans e2) (eB1.trans eB2) w2 ry
  | false => exact ((h2 rfl).mono eB1).bind w1 fun y B2 H2 e2 eB2 w2 ry => q y B2 H2 (e1.trans e2) (eB1.trans eB2) w2 ry) st

/-! #### arguments, new lists and tuples -/
theorem ea_nil : EvAD K tNil σ B [] := fun S H w Q q => q [] H (Ex.refl H) .nil
theorem ea_cons (h : EvD K ta σ B d) (hr : EvAD K tA σ B ds) : EvAD K (tCons ta tA) σ B (d :: ds) := fun S H w Q q => h.bind w fun x B1 H1 e1 eB1 w1 rx => (hr.mono eB1).bind w1 fun vs B2 H2 e2 eB2 w2 rs =>
  q (x :: vs) H2 (e1.trans e2) (.cons (Dq.mono (eB2.trans (ex_mi w2.ex w2.no)) rx) (DqAll.mono (ex_mi w2.ex w2.no) rs))
theorem ev_tup (h : EvAD K tA σ B ds) (hl : ds.length ≤ 100000) : EvD K (tTup tA) σ B (.tuple ds) := evR_of (fun S H w Q q => h.bind w fun vs B1 H1 e1 eB1 w1 rs =>
  ⟨sz_of (by rw [DqAll.length rs]; exact hl), fun p hp => q (.ref p) _ _ (e1.trans (Ex.new hp)) (eB1.trans (w1.newE (o := .tup vs) hp)) (w1.new hp) (.tup upd_same (DqAll.mono (w1.newE hp) rs))⟩) stays_dp
theorem ev_lst (h : EvAD K tA σ B ds) (hl : ds.length ≤ 100000) : EvD K (tLst tA) σ B (.list ds) := evR_of (fun S H w Q q => h.bind w fun vs B1 H1 e1 eB1 w1 rs =>
  ⟨sz_of (by rw [DqAll.length rs]; exact hl), fun p hp => q (.ref p) _ _ (e1.trans (Ex.new hp)) (eB1.trans (w1.newE (o := .lst vs) hp)) (w1.new hp) (.lst (sq_of upd_same) (DqAll.mono (w1.newE hp) rs))⟩) stays_dp
/-- a sequence: a list or a tuple -/
def seqD (tup : Bool) (ds : List PyData) : PyData := if tup then .tuple ds else .list ds
theorem Dq.seq {t : Bool} (h : Dq K B v (seqD t ds)) : ∃ a vs, v = .ref a ∧ (SqL K B a vs ∨ SqT K B a vs) ∧ DqAll K B vs ds ∧ (t = true → SqT K B a vs) ∧ (t = false → SqL K B a vs) := by
  cases t with
  | true =>
    cases (show Dq K B v (.tuple ds) from h) with
    | tup h1 h2 => exact ⟨_, _, rfl, .inr (st_of h1), h2, (fun _ => st_of h1), (fun z => by cases z)⟩
  | false =>
    cases (show Dq K B v (.list ds) from h) with
    | lst h1 h2 => exact ⟨_, _, rfl, .inl h1, h2, (fun z => by cases z), (fun _ => h1)⟩
theorem atI_dp {vs : List V} {i : Int} (h : DqAll K B vs ds) (ha : atI ds i = some d) : ∃ v, atI vs i = some v ∧ Dq K B v d := by
  unfold atI at ha ⊢
  rw [DqAll.length h]
  obtain ⟨j, h1, h2⟩ := Option.bind_eq_some_iff.mp ha
  rw [h1]
  obtain ⟨v, h3, h4⟩ := DqAll.getd h h2
  exact ⟨v, h3, h4⟩
/-- an item -/
theorem ev_ix {t : Bool} {i : Int} (ha : EvD K ta σ B (seqD t ds)) (hb : EvD K tb σ B (.int i)) (hi : atI ds i = some d) : EvD K (tOp (rIx K) ta tb) σ B d :=
  ev_op ha hb (fun x y B' H' Q hx hy e q => by
    cases hy
    obtain ⟨a, vs, rfl, hs, hd, _⟩ := Dq.seq hx
    obtain ⟨v, h1, h2⟩ := atI_dp hd hi
    rcases hs with hs | hs
    · exact .inl ⟨a, vs, i, v, rfl, rfl, ex_l e hs, h1, q v h2⟩
    · exact .inr (.inl ⟨a, vs, i, v, rfl, rfl, ex_t e hs, h1, q v h2⟩)) stays_dp
theorem ev_ixL {i : Int} (ha : EvD K ta σ B (.list ds)) (hb : EvD K tb σ B (.int i)) (hi : atI ds i = some d) : EvD K (tOp (rIxL K) ta tb) σ B d :=
  ev_op ha hb (fun x y B' H' Q hx hy e q => by
    cases hy
    cases hx with
    | lst hs hd =>
      obtain ⟨v, h1, h2⟩ := atI_dp hd hi
      exact ⟨_, _, i, v, rfl, rfl, ex_l e hs, h1, q v h2⟩) stays_dp
theorem ev_ixT {i : Int} (ha : EvD K ta σ B (.tuple ds)) (hb : EvD K tb σ B (.int i)) (hi : atI ds i = some d) : EvD K (tOp (rIxT K) ta tb) σ B d :=
  ev_op ha hb (fun x y B' H' Q hx hy e q => by
    cases hy
    cases hx with
    | tup hs hd =>
      obtain ⟨v, h1, h2⟩ := atI_dp hd hi
      exact ⟨_, _, i, v, rfl, rfl, st_of (e _ _ hs), h1, q v h2⟩) stays_dp
/-- a call by values, one argument, that makes no object -/
theorem ev_cb {r : List V → Hp → VK → Prop} (h : EvAD K tA σ B ds) (hr : ∀ vs B' H' (Q : VK), DqAll K B' vs ds → Ex B' H' → (∀ v, R v B' → Q v H') → r vs H' Q) (st : Stays R) : EvR (tCB r tA) σ B R :=
  evR_of (fun S H w Q q => h.bind w fun vs B1 H1 e1 eB1 w1 rs => hr vs B1 H1 Q rs w1.ex fun v rv => q v B1 H1 e1 eB1 w1 rv) st
/-- a call that makes a new list (tuple) of the values that it is told -/
theorem ev_cbL {r : List V → Hp → VK → Prop} {ds' : List PyData} (h : EvAD K tA σ B ds) (hr : ∀ vs B' H' (Q : VK), DqAll K B' vs ds → Ex B' H' → (∀ p xs, H' p = none → DqAll K B' xs ds' → Q (.ref p) (upd H' p (.lst xs))) → r vs H' Q) : EvD K (tCB r tA) σ B (.list ds') :=
  evR_of (fun S H w Q q => h.bind w fun vs B1 H1 e1 eB1 w1 rs => hr vs B1 H1 Q rs w1.ex fun p xs hp hx => q (.ref p) _ _ (e1.trans (Ex.new hp)) (eB1.trans (w1.newE (o := .lst xs) hp)) (w1.new hp) (.lst (sq_of upd_same) (DqAll.mono (w1.newE hp) hx))) stays_dp
theorem ev_cbT {r : List V → Hp → VK → Prop} {ds' : List PyData} (h : EvAD K tA σ B ds) (hr : ∀ vs B' H' (Q : VK), DqAll K B' vs ds → Ex B' H' → (∀ p xs, H' p = none → DqAll K B' xs ds' → Q (.ref p) (upd H' p (.tup xs))) → (∀ v, Dq K B' v (.tuple ds') → Q v H') → r vs H' Q) : EvD K (tCB r tA) σ B (.tuple ds') :=
  evR_of (fun S H w Q q => h.bind w fun vs B1 H1 e1 eB1 w1 rs => hr vs B1 H1 Q rs w1.ex (fun p xs hp hx => q (.ref p) _ _ (e1.trans (Ex.new hp)) (eB1.trans (w1.newE (o := .tup xs) hp)) (w1.new hp) (.tup upd_same (DqAll.mono (w1.newE hp) hx))) fun v hv => q v B1 H1 e1 eB1 w1 hv) stays_dp
def rLenS (K : PySem.W.Frag) : List V → Hp → VK → Prop := fun xs H Q => ∃ p ys, xs = [.ref p] ∧ (SqL K H p ys ∨ SqT K H p ys) ∧ Q (.int ys.length) H
theorem ev_len {t : Bool} (h : EvD K ta σ B (seqD t ds)) : EvD K (tCB (rLenS K) (tCons ta tNil)) σ B (.int (ds.length : Nat)) := ev_cb (ea_cons h ea_nil) (fun vs B' H' Q hv e q => by
  cases hv with
  | cons h1 h2 =>
    cases h2
    obtain ⟨a, xs, rfl, hs, hd, _⟩ := Dq.seq h1
    refine ⟨a, xs, rfl, hs.elim (fun h => .inl (ex_l e h)) (fun h => .inr (ex_t e h)), ?_⟩
    rw [DqAll.length hd]
    exact q _ (.int _)) stays_dp
def rListS (K : PySem.W.Frag) : List V → Hp → VK → Prop := fun xs H Q => ∃ p ys, xs = [.ref p] ∧ (SqL K H p ys ∨ SqT K H p ys) ∧ ∀ l, H l = none → Q (.ref l) (upd H l (.lst ys))
theorem ev_list {t : Bool} (h : EvD K ta σ B (seqD t ds)) : EvD K (tCB (rListS K) (tCons ta tNil)) σ B (.list ds) := ev_cbL (ea_cons h ea_nil) fun vs B' H' Q hv e q => by
  cases hv with
  | cons h1 h2 =>
    cases h2
    obtain ⟨a, xs, rfl, hs, hd, _⟩ := Dq.seq h1
    exact ⟨a, xs, rfl, hs.elim (fun h => .inl (ex_l e h)) (fun h => .inr (ex_t e h)), fun l hl => q l xs hl hd⟩
def rTupleS (K : PySem.W.Frag) : List V → Hp → VK → Prop := fun xs H Q => ∃ p ys, xs = [.ref p] ∧ ((SqL K H p ys ∧ ∀ l, H l = none → Q (.ref l) (upd H l (.tup ys))) ∨ (SqT K H p ys ∧ Q (.ref p) H))
theorem ev_tuple {t : Bool} (h : EvD K ta σ B (seqD t ds)) : EvD K (tCB (rTupleS K) (tCons ta tNil)) σ B (.tuple ds) := ev_cbT (ea_cons h ea_nil) fun vs B' H' Q hv e q q2 => by
  cases hv with
  | cons h1 h2 =>
    cases h2
    cases t with
    | true =>
      cases (show Dq K B' _ (.tuple ds) from h1) with
      | tup hs hd => exact ⟨_, _, rfl, .inr ⟨st_of (e _ _ hs), q2 _ (.tup hs hd)⟩⟩
    | false =>
      cases (show Dq K B' _ (.list ds) from h1) with
      | lst hs hd => exact ⟨_, _, rfl, .inl ⟨ex_l e hs, fun l hl => q l _ hl hd⟩⟩
theorem ev_sum {ns : List Int} (h : EvD K ta σ B (.list (ns.map .int))) : EvD K (tCB (rSum K) (tCons ta tNil)) σ B (.int ns.sum) := ev_cb (ea_cons h ea_nil) (fun vs B' H' Q hv e q => by
  cases hv with
  | cons h1 h2 =>
    cases h2
    cases h1 with
    | lst hs hd =>
      have e2 := DqAll.ints_eq hd
      subst e2
      exact ⟨_, ns, rfl, ex_l e hs, q _ (.int _)⟩) stays_dp
theorem DqAll.bools_eq : ∀ {bs : List Bool} {vs : List V}, DqAll K B vs (bs.map PyData.bool) → vs = bs.map V.bl
  | [], _, h => by cases h; rfl
  | b :: bs, _, h => by
    cases h with
    | cons h1 h2 =>
      cases h1
      rw [DqAll.bools_eq h2]
      rfl
theorem ev_all {bs : List Bool} (h : EvD K ta σ B (.list (bs.map .bool))) : EvD K (tCB (rAll K) (tCons ta tNil)) σ B (.bool (bs.all id)) := ev_cb (ea_cons h ea_nil) (fun vs B' H' Q hv e q => by
  cases hv with
  | cons h1 h2 =>
    cases h2
    cases h1 with
    | lst hs hd =>
      have e2 := DqAll.bools_eq hd
      subst e2
      exact ⟨_, bs, rfl, ex_l e hs, q _ (.bl _)⟩) stays_dp
theorem ev_any {bs : List Bool} (h : EvD K ta σ B (.list (bs.map .bool))) : EvD K (tCB (rAny K) (tCons ta tNil)) σ B (.bool (bs.any id)) := ev_cb (ea_cons h ea_nil) (fun vs B' H' Q hv e q => by
  cases hv with
  | cons h1 h2 =>
    cases h2
    cases h1 with
    | lst hs hd =>
      have e2 := DqAll.bools_eq hd
      subst e2
      exact ⟨_, bs, rfl, ex_l e hs, q _ (.bl _)⟩) stays_dp
def rInt1 : List V → Hp → VK → Prop := fun xs H Q => (∃ i, xs = [.int i] ∧ Q (.int i) H) ∨ ∃ k, xs = [.bl k] ∧ Q (.int (if k = true then 1 else 0)) H
theorem ev_intB (h : EvD K ta σ B (.bool b)) : EvD K (tCB rInt1 (tCons ta tNil)) σ B (.int (if b = true then 1 else 0)) := ev_cb (ea_cons h ea_nil) (fun vs B' H' Q hv e q => by
  cases hv with
  | cons h1 h2 =>
    cases h2
    cases h1
    exact .inr ⟨b, rfl, q _ (.int _)⟩) stays_dp
def rAbs1 : List V → Hp → VK → Prop := fun xs H Q => ∃ i, xs = [.int i] ∧ Q (.int (if i < 0 then -i else i)) H
theorem ev_abs {i : Int} (h : EvD K ta σ B (.int i)) : EvD K (tCB rAbs1 (tCons ta tNil)) σ B (.int (if i < 0 then -i else i)) := ev_cb (ea_cons h ea_nil) (fun vs B' H' Q hv e q => by
  cases hv with
  | cons h1 h2 =>
    cases h2
    cases h1
    exact ⟨i, rfl, q _ (.int _)⟩) stays_dp
def rMin2 : List V → Hp → VK → Prop := fun xs H Q => ∃ i j, xs = [.int i, .int j] ∧ Q (.int (if j < i then j else i)) H
def rMax2 : List V → Hp → VK → Prop := fun xs H Q => ∃ i j, xs = [.int i, .int j] ∧ Q (.int (if j > i then j else i)) H
theorem ev_min2 {i j : Int} (ha : EvD K ta σ B (.int i)) (hb : EvD K tb σ B (.int j)) : EvD K (tCB rMin2 (tCons ta (tCons tb tNil))) σ B (.int (if j < i then j else i)) := ev_cb (ea_cons ha (ea_cons hb ea_nil)) (fun vs B' H' Q hv e q => by
  cases hv with
  | cons h1 t =>
  cases t with
  | cons h2 t =>
    cases t
    cases h1
    cases h2
    exact ⟨i, j, rfl, q _ (.int _)⟩) stays_dp
theorem ev_max2 {i j : Int} (ha : EvD K ta σ B (.int i)) (hb : EvD K tb σ B (.int j)) : EvD K (tCB rMax2 (tCons ta (tCons tb tNil))) σ B (.int (if j > i then j else i)) := ev_cb (ea_cons ha (ea_cons hb ea_nil)) (fun vs B' H' Q hv e q => by
  cases hv with
  | cons h1 t =>
  cases t with
  | cons h2 t =>
    cases t
    cases h1
    cases h2
    exact ⟨i, j, rfl, q _ (.int _)⟩) stays_dp
/-- x in xs, of ints -/
theorem inV_ints {i : Int} : ∀ {ns : List Int}, inV (.int i) (ns.map V.int) = decide (i ∈ ns)
  | [] => by simp [inV]
  | n :: ns => by
    have ih := inV_ints (i := i) (ns := ns)
    unfold inV at ih ⊢
    rw [List.map_cons, List.any_cons, ih]
    have e : eqV (.int n) (.int i) = decide (n = i) := by
      unfold eqV
      by_cases h : n = i <;> simp [h]
    rw [e]
    by_cases h : n = i
    · simp [h]
    · have h' : ¬ i = n := fun z => h z.symm
      simp [h, h']
theorem flat_ints {ns : List Int} : (ns.map V.int).all flatV = true := by
  rw [List.all_eq_true]
  intro v hv
  obtain ⟨n, _, rfl⟩ := List.mem_map.mp hv
  rfl
theorem ev_in {neg t : Bool} {i : Int} {ns : List Int} (ha : EvD K ta σ B (.int i)) (hb : EvD K tb σ B (seqD t (ns.map .int))) : EvD K (tOp (rIn K neg) ta tb) σ B (.bool (if neg then !decide (i ∈ ns) else decide (i ∈ ns))) :=
  ev_op ha hb (fun x y B' H' Q hx hy e q => by
    cases hx
    obtain ⟨a, vs, rfl, hs, hd, _⟩ := Dq.seq hy
    have e2 := DqAll.ints_eq hd
    subst e2
    refine ⟨a, _, rfl, hs.elim (fun h => .inl (ex_l e h)) (fun h => .inr (ex_t e h)), rfl, flat_ints, ?_⟩
    rw [inV_ints]
    exact q _ (.bl _)) stays_dp
/-- == and != of data -/
theorem ev_eqD (ha : EvD K ta σ B d) (hb : EvD K tb σ B d') (s1 : SeqAt.shaped d = true) (s2 : SeqAt.shaped d' = true) : EvD K (tOp (rEqD K) ta tb) σ B (.bool (PyData.eqv d d')) :=
  ev_op ha hb (fun x y B' H' Q hx hy e q => ⟨d, d', Dq.dp (Dq.mono e hx), Dq.dp (Dq.mono e hy), s1, s2, q _ (.bl _)⟩) stays_dp
theorem ev_neD (ha : EvD K ta σ B d) (hb : EvD K tb σ B d') (s1 : SeqAt.shaped d = true) (s2 : SeqAt.shaped d' = true) : EvD K (tOp (rNeD K) ta tb) σ B (.bool (!PyData.eqv d d')) :=
  ev_op ha hb (fun x y B' H' Q hx hy e q => ⟨d, d', Dq.dp (Dq.mono e hx), Dq.dp (Dq.mono e hy), s1, s2, q _ (.bl _)⟩) stays_dp
end
end Pw

/-! ## PwLoop -/
namespace Pw
open PySem L2 Evl

/-! ### walks: what a loop or a comprehension goes through -/
def Wk (wi : TI) (σ : L2.St) (B : Hp) (n : Nat) (xd : Nat → V → Hp → Prop) : Prop := ∀ S H, Wd S B H → ∀ R : It → Hp → Prop,
  (∀ J B1 H1, Ex H H1 → Ex B B1 → Wd S B1 H1 → (∀ i H', Ex B1 H' → i < n → J.go i H') → (∀ i H', Ex B1 H' → i = n → J.stop i H') →
    (∀ i S' B' H' x H'', Ex B1 B' → Wd S' B' H' → i < n → J.yld i H' x H'' → ∃ B'', Ex H' H'' ∧ Ex B' B'' ∧ Wd S' B'' H'' ∧ xd i x B'') → R J H1) → wi σ H R
section
variable {K : PySem.W.Frag} {σ : L2.St} {B H : Hp} {S : List Addr} {te ta tb tl : TE} {tt : TT} {tA : TA} {wi wi1 wi2 : TI} {g : TG} {tu : TS} {D : Ends} {n : Nat} {xd : Nat → V → Hp → Prop} {ds : List PyData}
/-- a walk over data -/
abbrev xdOf (K : PySem.W.Frag) (ds : List PyData) : Nat → V → Hp → Prop := fun i x B => ∃ d, ds[i]? = some d ∧ Dq K B x d
abbrev WkD (K : PySem.W.Frag) (wi : TI) (σ : L2.St) (B : Hp) (ds : List PyData) : Prop := Wk wi σ B ds.length (xdOf K ds)
theorem wk_list (h : EvD K tl σ B (.list ds)) : WkD K (iList K tl) σ B ds := fun S H w R k => h.bind w fun v B1 H1 e1 eB1 w1 r => by
  cases r with
  | @lst a xs _ hs hd =>
    have hl := DqAll.length hd
    refine ⟨a, rfl, ⟨xs, ex_l w1.ex hs⟩, k _ B1 H1 e1 eB1 w1 (fun i H' e hi => ⟨xs, xs[i]'(by omega), ex_l e hs, List.getElem?_eq_getElem _⟩) (fun i H' e hi => ⟨xs, ex_l e hs, by omega⟩) fun i S' B' H' x H'' eB w' hi y => ?_⟩
    obtain ⟨rfl, f⟩ := y
    have hx := f _ (ex_l (eB.trans w'.ex) hs)
    obtain ⟨d, h1, h2⟩ := DqAll.get hd hx
    exact ⟨B', Ex.refl _, Ex.refl _, w', d, h1, Dq.mono eB h2⟩
theorem wk_tup (h : EvD K tl σ B (.tuple ds)) : WkD K (iTup K tl) σ B ds := fun S H w R k => h.bind w fun v B1 H1 e1 eB1 w1 r => by
  cases r with
  | @tup a xs _ hs hd =>
    have hl := DqAll.length hd
    refine ⟨a, rfl, ⟨xs, st_of (w1.ex _ _ hs)⟩, k _ B1 H1 e1 eB1 w1 (fun i H' e hi => ⟨xs, xs[i]'(by omega), st_of (e _ _ hs), List.getElem?_eq_getElem _⟩) (fun i H' e hi => ⟨xs, st_of (e _ _ hs), by omega⟩) fun i S' B' H' x H'' eB w' hi y => ?_⟩
    obtain ⟨rfl, f⟩ := y
    have hx := f _ (st_of ((eB.trans w'.ex) _ _ hs))
    obtain ⟨d, h1, h2⟩ := DqAll.get hd hx
    exact ⟨B', Ex.refl _, Ex.refl _, w', d, h1, Dq.mono eB h2⟩
theorem wk_seq {t : Bool} (h : EvD K tl σ B (seqD t ds)) : WkD K (fun σ H R => iList K tl σ H R ∨ iTup K tl σ H R) σ B ds := by
  cases t with
  | true => exact fun S H w R k => .inr (wk_tup (show EvD K tl σ B (.tuple ds) from h) S H w R k)
  | false => exact fun S H w R k => .inl (wk_list (show EvD K tl σ B (.list ds) from h) S H w R k)
/-- the ints from lo on, n of them -/
def rngI (lo : Int) (n : Nat) : List Int := (List.range n).map fun (i : Nat) => lo + (i : Int)
theorem rngI_len {lo : Int} {n : Nat} : (rngI lo n).length = n := by unfold rngI; rw [List.length_map, List.length_range]
theorem rngI_get {lo : Int} {n i : Nat} (h : i < n) : (rngI lo n)[i]? = some (lo + (i : Int)) := by
  unfold rngI
  rw [List.getElem?_map, List.getElem?_range h]
  rfl
theorem rngI_mem {lo x : Int} {n : Nat} : x ∈ rngI lo n ↔ lo ≤ x ∧ x < lo + (n : Int) := by
  unfold rngI
  rw [List.mem_map]
  constructor
  · rintro ⟨i, hi, rfl⟩
    have := List.mem_range.mp hi
    omega
  · rintro ⟨h1, h2⟩
    exact ⟨(x - lo).toNat, List.mem_range.mpr (by omega), by omega⟩
theorem wk_itr {lo : Int} {m : Nat} {S : List Addr} {H : Hp} {R : It → Hp → Prop} (w : Wd S B H)
    (k : ∀ J B1 H1, Ex H H1 → Ex B B1 → Wd S B1 H1 → (∀ i H', Ex B1 H' → i < ((rngI lo m).map PyData.int).length → J.go i H') → (∀ i H', Ex B1 H' → i = ((rngI lo m).map PyData.int).length → J.stop i H') →
    (∀ i S' B' H' x H'', Ex B1 B' → Wd S' B' H' → i < ((rngI lo m).map PyData.int).length → J.yld i H' x H'' → ∃ B'', Ex H' H'' ∧ Ex B' B'' ∧ Wd S' B'' H'' ∧ xdOf K ((rngI lo m).map PyData.int) i x B'') → R J H1) : R (Itr lo m) H := by
  have hl : ((rngI lo m).map PyData.int).length = m := by rw [List.length_map, rngI_len]
  rw [hl] at k
  refine k _ B H (Ex.refl H) (Ex.refl B) w (fun i H' e hi => hi) (fun i H' e hi => Nat.le_of_eq hi.symm) fun i S' B' H' x H'' eB w' hi y => ?_
  obtain ⟨rfl, rfl⟩ := y
  exact ⟨B', Ex.refl _, Ex.refl _, w', .int (lo + (i : Int)), by rw [List.getElem?_map, rngI_get hi]; rfl, .int _⟩
theorem wk_rng1 {j : Int} (h : EvAD K tA σ B [.int j]) (hj : -100000 ≤ j ∧ j ≤ 100000) : WkD K (iRng1 tA) σ B ((rngI 0 j.toNat).map .int) := fun S H w R k => by
  refine h.bind w fun vs B1 H1 e1 eB1 w1 rs => ?_
  cases rs with
  | cons r1 r2 =>
    cases r1
    cases r2
    exact ⟨j, rfl, by omega, by omega, wk_itr w1 fun J B2 H2 e2 eB2 w2 => k J B2 H2 (e1.trans e2) (eB1.trans eB2) w2⟩
theorem wk_rng2 {i j : Int} (h : EvAD K tA σ B [.int i, .int j]) (hi : -100000 ≤ i ∧ i ≤ 100000) (hj : -100000 ≤ j ∧ j ≤ 100000) : WkD K (iRng2 tA) σ B ((rngI i (j - i).toNat).map .int) := fun S H w R k => by
  refine h.bind w fun vs B1 H1 e1 eB1 w1 rs => ?_
  cases rs with
  | cons r1 r2 =>
    cases r2 with
    | cons r2 r3 =>
    cases r1
    cases r2
    cases r3
    exact ⟨i, j, rfl, ⟨by omega, by omega, by omega, by omega⟩, wk_itr w1 fun J B2 H2 e2 eB2 w2 => k J B2 H2 (e1.trans e2) (eB1.trans eB2) w2⟩

/-! ### comprehensions -/
def TurnLc (K : PySem.W.Frag) (g : TG) (tt : TT) (te : TE) (σ : L2.St) (vs : List Nat) (B : Hp) (d : PyData) (fa : Bool) (ea : PyData) : Prop :=
  ∀ x S B' H', Ex B B' → Wd S B' H' → Dq K B' x d → ∀ (Qy : VK) (Qn : Hp → Prop), (fa = true → ∀ y B2 H2, Ex H' H2 → Ex B' B2 → Wd S B2 H2 → Dq K B2 y ea → Qy y H2) → (fa = false → ∀ B2 H2, Ex H' H2 → Ex B' B2 → Wd S B2 H2 → Qn H2) →
    g x (wipe σ vs) H' fun σ2 H2 => wipe σ2 vs = wipe σ vs ∧ tt σ2 H2 fun b H3 => if b = true then te σ2 H3 Qy else Qn H3
theorem ev_lc {α : Type} (l : List α) (enc : α → PyData) (f : α → Bool) (e : α → PyData) {vs : List Nat} (hk : WkD K wi σ B (l.map enc)) (hl : l.length ≤ 40000) (turn : ∀ a ∈ l, TurnLc K g tt te σ vs B (enc a) (f a) (e a)) :
    EvD K (tLc wi g tt te vs) σ B (.list ((l.filter f).map e)) := fun S H w Q q => by
  refine hk S H w _ fun J B1 H1 e1 eB1 w1 hgo hstop hyld Dl hD => ?_
  rw [List.length_map] at hgo hstop hyld
  refine ⟨fun i m H' => m = l.length - i ∧ i ≤ l.length ∧ Ex H1 H' ∧ ∃ B' acc, Ex B1 B' ∧ Wd (Dl :: S) B' H' ∧ H' Dl = some (.lst acc) ∧ DqAll K B' acc (((l.take i).filter f).map e), ⟨l.length, by omega, Nat.zero_le _, Ex.new hD, B1, [], Ex.refl _, w1.own hD, upd_same, .nil⟩, ?_⟩
  rintro i m H2 ⟨rfl, hi, eH, B2, acc, eB2, w2, hA, hd⟩
  by_cases hlt : i < l.length
  · obtain ⟨a, ha⟩ : ∃ a, l[i]? = some a := ⟨l[i], List.getElem?_eq_getElem hlt⟩
    have hmem : a ∈ l := List.mem_of_getElem? ha
    refine .inr ⟨hgo i H2 (eB2.trans w2.ex) hlt, fun H' => ∃ B', ∃ acc, Ex H1 H' ∧ Ex B1 B' ∧ Wd (Dl :: S) B' H' ∧ H' Dl = some (.lst acc) ∧ DqAll K B' acc (((l.take (i + 1)).filter f).map e), fun H' ⟨B', acc, h1, h2, h3, h4, h5⟩ => ⟨l.length - (i + 1), by omega, rfl, by omega, h1, B', acc, h2, h3, h4, h5⟩, fun x H3 hy => ?_⟩
    obtain ⟨B3, e3, eB3, w3, d, hd1, hd2⟩ := hyld i (Dl :: S) B2 H2 x H3 eB2 w2 hlt hy
    have ed : enc a = d := by
      rw [List.getElem?_map, ha] at hd1
      exact Option.some.inj hd1
    subst ed
    have htk : l.take (i + 1) = l.take i ++ [a] := by rw [List.take_add_one, ha]; rfl
    have hA3 := e3 _ _ hA
    refine turn a hmem x (Dl :: S) B3 H3 (eB1.trans (eB2.trans eB3)) w3 hd2 _ _ (fun hf y B4 H4 e4 eB4 w4 hy4 => ?_) (fun hf B4 H4 e4 eB4 w4 => ?_)
    · have hlen : acc.length ≤ l.length := by
        rw [DqAll.length hd, List.length_map]
        refine Nat.le_trans (List.length_filter_le _ _) ?_
        rw [List.length_take]
        exact Nat.min_le_right _ _
      refine ⟨acc, e4 _ _ hA3, sz_lt (by omega), B4, acc ++ [y], ?_, eB2.trans (eB3.trans eB4), w4.put List.mem_cons_self, upd_same, ?_⟩
      · exact (eH.trans (e3.trans e4)).mut hD
      · rw [htk, List.filter_append, List.filter_cons, if_pos hf, List.map_append]
        exact DqAll.snoc (DqAll.mono (eB3.trans eB4) hd) hy4
    · refine ⟨B4, acc, eH.trans (e3.trans e4), eB2.trans (eB3.trans eB4), w4, e4 _ _ hA3, ?_⟩
      rw [htk, List.filter_append, List.filter_cons, if_neg (by rw [hf]; decide)]
      show DqAll K B4 acc ((List.filter f (l.take i) ++ []).map e)
      rw [List.append_nil]
      exact DqAll.mono (eB3.trans eB4) hd
  · have ei : i = l.length := by omega
    subst ei
    refine .inl ⟨hstop _ H2 (eB2.trans w2.ex) rfl, q _ _ (e1.trans eH) ?_⟩
    rw [List.take_length] at hd
    have w4 := w2.give hA (w1.nin hD)
    exact Dq.mono (ex_mi w4.ex w4.no) (.lst (sq_of upd_same) (DqAll.mono w2.giveE hd))
theorem turn_name {j : Nat} {vs : List Nat} {d ea : PyData} {fa : Bool} (hv : ∀ x, wipe ((wipe σ vs).set j (some x)) vs = wipe σ vs)
    (ht : ∀ x B', Ex B B' → Dq K B' x d → EvB tt ((wipe σ vs).set j (some x)) B' fa) (he : ∀ x B', Ex B B' → Dq K B' x d → fa = true → EvD K te ((wipe σ vs).set j (some x)) B' ea) : TurnLc K (gName j) tt te σ vs B d fa ea :=
  fun x S B' H' eB w hx Qy Qn hy hn => ⟨hv x, (ht x B' eB hx).bind w fun B2 H2 e2 eB2 w2 => by
    cases fa with
    | true => exact ((he x B' eB hx rfl).mono eB2).bind w2 fun y B3 H3 e3 eB3 w3 r => hy rfl y B3 H3 (e2.trans e3) (eB2.trans eB3) w3 r
    | false => exact hn rfl B2 H2 e2 eB2 w2⟩
theorem turn_two {j1 j2 : Nat} {vs : List Nat} {d1 d2 ea : PyData} {fa : Bool} (hv : ∀ x1 x2, wipe (((wipe σ vs).set j1 (some x1)).set j2 (some x2)) vs = wipe σ vs)
    (ht : ∀ x1 x2 B', Ex B B' → Dq K B' x1 d1 → Dq K B' x2 d2 → EvB tt (((wipe σ vs).set j1 (some x1)).set j2 (some x2)) B' fa)
    (he : ∀ x1 x2 B', Ex B B' → Dq K B' x1 d1 → Dq K B' x2 d2 → fa = true → EvD K te (((wipe σ vs).set j1 (some x1)).set j2 (some x2)) B' ea) : TurnLc K (gTup K 2 (gCons (gName j1) (gCons (gName j2) gNil))) tt te σ vs B (.tuple [d1, d2]) fa ea :=
  fun x S B' H' eB w hx Qy Qn hy hn => by
    cases hx with
    | tup hs hd =>
    cases hd with
    | cons h1 t =>
    cases t with
    | cons h2 t =>
    cases t
    refine ⟨_, _, rfl, st_of (w.ex _ _ hs), rfl, _, _, rfl, _, _, rfl, rfl, hv _ _, (ht _ _ B' eB h1 h2).bind w fun B2 H2 e2 eB2 w2 => ?_⟩
    cases fa with
    | true => exact ((he _ _ B' eB h1 h2 rfl).mono eB2).bind w2 fun y B3 H3 e3 eB3 w3 r => hy rfl y B3 H3 (e2.trans e3) (eB2.trans eB3) w3 r
    | false => exact hn rfl B2 H2 e2 eB2 w2
theorem turn_three {j1 j2 j3 : Nat} {vs : List Nat} {d1 d2 d3 ea : PyData} {fa : Bool} (hv : ∀ x1 x2 x3, wipe ((((wipe σ vs).set j1 (some x1)).set j2 (some x2)).set j3 (some x3)) vs = wipe σ vs)
    (ht : ∀ x1 x2 x3 B', Ex B B' → Dq K B' x1 d1 → Dq K B' x2 d2 → Dq K B' x3 d3 → EvB tt ((((wipe σ vs).set j1 (some x1)).set j2 (some x2)).set j3 (some x3)) B' fa)
    (he : ∀ x1 x2 x3 B', Ex B B' → Dq K B' x1 d1 → Dq K B' x2 d2 → Dq K B' x3 d3 → fa = true → EvD K te ((((wipe σ vs).set j1 (some x1)).set j2 (some x2)).set j3 (some x3)) B' ea) : TurnLc K (gTup K 3 (gCons (gName j1) (gCons (gName j2) (gCons (gName j3) gNil)))) tt te σ vs B (.tuple [d1, d2, d3]) fa ea :=
  fun x S B' H' eB w hx Qy Qn hy hn => by
    cases hx with
    | tup hs hd =>
    cases hd with
    | cons h1 t =>
    cases t with
    | cons h2 t =>
    cases t with
    | cons h3 t =>
    cases t
    refine ⟨_, _, rfl, st_of (w.ex _ _ hs), rfl, _, _, rfl, _, _, rfl, _, _, rfl, rfl, hv _ _ _, (ht _ _ _ B' eB h1 h2 h3).bind w fun B2 H2 e2 eB2 w2 => ?_⟩
    cases fa with
    | true => exact ((he _ _ _ B' eB h1 h2 h3 rfl).mono eB2).bind w2 fun y B3 H3 e3 eB3 w3 r => hy rfl y B3 H3 (e2.trans e3) (eB2.trans eB3) w3 r
    | false => exact hn rfl B2 H2 e2 eB2 w2

/-! ### statements -/
theorem st_asg {i : Nat} {R : V → Hp → Prop} (w : Wd S B H) (h : EvR te σ B R) (k : ∀ v B' H', Ex H H' → Ex B B' → Wd S B' H' → R v B' → D.nx (σ.set i (some v)) H') : tAsg te (gName i) D σ H := h.bind w k
theorem st_ret {R : V → Hp → Prop} (w : Wd S B H) (h : EvR te σ B R) (k : ∀ v B' H', Ex H H' → Ex B B' → Wd S B' H' → R v B' → D.rt v H') : tRet te D σ H := h.bind w k
theorem st_if {tv : TS} {b : Bool} (w : Wd S B H) (h : EvB tt σ B b) (h1 : b = true → ∀ B' H', Ex H H' → Ex B B' → Wd S B' H' → tu D σ H') (h2 : b = false → ∀ B' H', Ex H H' → Ex B B' → Wd S B' H' → tv D σ H') : tIfS tt tu tv D σ H := h.bind w fun B' H' e eB w' => by
  cases b with
  | true => exact h1 rfl B' H' e eB w'
  | false => exact h2 rfl B' H' e eB w'
theorem st_for {α : Type} (l : List α) (enc : α → PyData) (w : Wd S B H) (hk : WkD K wi σ B (l.map enc)) (k : ∀ B1 H1, Ex H H1 → Ex B B1 → Wd S B1 H1 → ∃ Iv : Nat → L2.St → Hp → Prop, Iv 0 σ H1 ∧
    (∀ i a σ' H', l[i]? = some a → Iv i σ' H' → ∃ S' B', Ex B1 B' ∧ Wd S' B' H' ∧ ∀ x B'' H'', Ex H' H'' → Ex B' B'' → Wd S' B'' H'' → Dq K B'' x (enc a) → g x σ' H'' fun σ2 H2 => tu { D with nx := Iv (i + 1), ct := Iv (i + 1), bk := D.nx } σ2 H2) ∧
    (∀ σ' H', Iv l.length σ' H' → (∃ S' B', Ex B1 B' ∧ Wd S' B' H') ∧ D.nx σ' H')) : tFor wi g tu D σ H := by
  refine hk S H w _ fun J B1 H1 e1 eB1 w1 hgo hstop hyld => ?_
  rw [List.length_map] at hgo hstop hyld
  obtain ⟨Iv, h0, hs, hd⟩ := k B1 H1 e1 eB1 w1
  refine ⟨fun i m σ' H' => m = l.length - i ∧ i ≤ l.length ∧ Iv i σ' H', ⟨l.length, by omega, Nat.zero_le _, h0⟩, ?_⟩
  rintro i m σ2 H2 ⟨rfl, hi, p⟩
  by_cases hlt : i < l.length
  · obtain ⟨a, ha⟩ : ∃ a, l[i]? = some a := ⟨l[i], List.getElem?_eq_getElem hlt⟩
    obtain ⟨S', B', eB', w', t⟩ := hs i a σ2 H2 ha p
    refine .inr ⟨hgo i H2 (eB'.trans w'.ex) hlt, Iv (i + 1), fun σ' H' p' => ⟨l.length - (i + 1), by omega, rfl, by omega, p'⟩, fun x H3 hy => ?_⟩
    obtain ⟨B3, e3, eB3, w3, d, hd1, hd2⟩ := hyld i S' B' H2 x H3 eB' w' hlt hy
    have ed : enc a = d := by
      rw [List.getElem?_map, ha] at hd1
      exact Option.some.inj hd1
    subst ed
    exact t x B3 H3 e3 eB3 w3 hd2
  · have ei : i = l.length := by omega
    subst ei
    obtain ⟨⟨S', B', eB', w'⟩, h⟩ := hd σ2 H2 p
    exact .inl ⟨hstop _ H2 (eB'.trans w'.ex) rfl, h⟩

/-! ### calls of defs that change nothing -/
/-- what a def that changes nothing is worth: from data of these kinds a value of this one -/
def spD (K : PySem.W.Frag) (f : List PyData → PyData → Prop) : Sp := fun vs H Q _ => ∃ S B ds d, Wd S B H ∧ DqAll K B vs ds ∧ f ds d ∧ ∀ v B' H', Ex H H' → Ex B B' → Wd S B' H' → Dq K B' v d → Q v H'
theorem ev_call {f : List PyData → PyData → Prop} {d : PyData} {E : XK} (h : EvAD K tA σ B ds) (hf : f ds d) : EvD K (tCall (spD K f) [] E tA) σ B d :=
  evR_of (fun S H w Q q => h.bind w fun vs B1 H1 e1 eB1 w1 rs => ⟨S, B1, ds, d, w1, by rw [List.append_nil]; exact rs, hf, fun v B' H' e eB w' r => q v B' H' (e1.trans e) (eB1.trans eB) w' r⟩) stays_dp
end
end Pw

/-! ## PwDict -/
namespace Pw
open PySem L2 Evl
section
variable {K : PySem.W.Frag} {σ : L2.St} {B H : Hp} {S : List Addr} {te ta tb td tl : TE} {tA : TA} {R R' : V → Hp → Prop}
theorem ev_varR {i : Nat} {v : V} (h : σ[i]? = some (some v)) (r : R v B) (st : Stays R) : EvR (tVar i) σ B R := evR_of (fun S H w Q q => ⟨v, h, q v B H (Ex.refl H) (Ex.refl B) w r⟩) st
/-- a dict of which it matters which ints are its keys -/
def DSet (ks : List Int) (v : V) (B : Hp) : Prop := ∃ a kvs, v = .ref a ∧ B a = some (.dK kvs) ∧ ∀ k : Int, (valV kvs (.inl k)).isSome = decide (k ∈ ks)
theorem stays_dset {ks : List Int} : Stays (DSet ks) := fun v B B' e ⟨a, kvs, h1, h2, h3⟩ => ⟨a, kvs, h1, e _ _ h2, h3⟩
def rDictP (K : PySem.W.Frag) : List V → Hp → VK → Prop := fun xs H Q => ∃ (a : Addr) (ps : List Addr) (kvs : List (Key × V)), xs = [.ref a] ∧ SqL K H a (ps.map V.ref) ∧ Paired (fun p kv => SqT K H p [kV kv.1, kv.2]) ps kvs ∧
    ∀ p, H p = none → Q (.ref p) (upd H p (.dK (mergeK [] kvs)))
theorem pairs_ints {f : Int → PyData} : ∀ {ks : List Int} {xs : List V}, DqAll K B xs (ks.map fun k => .tuple [.int k, f k]) →
    ∃ (ps : List Addr) (kvs : List (Key × V)), xs = ps.map V.ref ∧ Paired (fun p kv => SqT K B p [kV kv.1, kv.2]) ps kvs ∧ kvs.map (·.1) = ks.map Sum.inl
  | [], _, h => by cases h; exact ⟨[], [], rfl, .nil, rfl⟩
  | k :: ks, _, h => by
    cases h with
    | cons h1 h2 =>
    obtain ⟨ps, kvs, rfl, h3, h4⟩ := pairs_ints h2
    cases h1 with
    | @tup a ys _ hs hd =>
    cases hd with
    | @cons y1 _ _ _ q1 t =>
    cases t with
    | @cons y2 _ _ _ q2 t =>
    cases t
    cases q1
    exact ⟨a :: ps, (.inl k, y2) :: kvs, rfl, .cons (st_of hs) h3, by rw [List.map_cons, List.map_cons, h4]⟩
theorem merge_some {κ : Type} [DecidableEq κ] (k : κ) : ∀ (kvs acc : List (κ × V)), (valV (kvs.foldl (fun acc kv => putK acc kv.1 kv.2) acc) k).isSome = ((valV acc k).isSome || decide (k ∈ kvs.map (·.1)))
  | [], acc => by simp
  | p :: r, acc => by
    rw [List.foldl_cons, merge_some k r, valV_put, List.map_cons]
    by_cases h : k = p.1
    · simp [h]
    · rw [if_neg h]
      have e : decide (k ∈ p.1 :: r.map (·.1)) = decide (k ∈ r.map (·.1)) := by
        by_cases q : k ∈ r.map (·.1)
        · rw [decide_eq_true q, decide_eq_true (List.mem_cons_of_mem _ q)]
        · rw [decide_eq_false q, decide_eq_false (fun z => (List.mem_cons.mp z).elim h q)]
      rw [e]
theorem paired_mono {H H' : Hp} {ps : List Addr} {kvs : List (Key × V)} (e : Ex H H') (h : Paired (fun p (kv : Key × V) => SqT K H p [kV kv.1, kv.2]) ps kvs) : Paired (fun p (kv : Key × V) => SqT K H' p [kV kv.1, kv.2]) ps kvs :=
  Paired.mapP h fun _ _ q => ex_t e q
theorem ev_dset {ks : List Int} {f : Int → PyData} (h : EvD K ta σ B (.list (ks.map fun k => .tuple [.int k, f k]))) : EvR (tCB (rDictP K) (tCons ta tNil)) σ B (DSet ks) :=
  evR_of (fun S H w Q q => (ea_cons h ea_nil).bind w fun vs B1 H1 e1 eB1 w1 rs => by
    cases rs with
    | cons r1 r2 =>
    cases r2
    cases r1 with
    | @lst a xs _ hs hd =>
    obtain ⟨ps, kvs, rfl, hp, hk⟩ := pairs_ints hd
    refine ⟨a, ps, kvs, rfl, ex_l w1.ex hs, paired_mono w1.ex hp, fun p hp => q (.ref p) _ _ (e1.trans (Ex.new hp)) (eB1.trans (w1.newE (o := .dK (mergeK [] kvs)) hp)) (w1.new hp) ⟨p, _, rfl, upd_same, fun k => ?_⟩⟩
    unfold mergeK
    rw [merge_some, hk]
    simp [valV_nil]) stays_dset
theorem ev_din {i : Int} {ks : List Int} (ha : EvD K ta σ B (.int i)) (hd : EvR td σ B (DSet ks)) : EvD K (tDIn ta td) σ B (.bool (decide (i ∈ ks))) :=
  evR_of (fun S H w Q q => ha.bind w fun x B1 H1 e1 eB1 w1 rx => (hd.mono eB1).bind w1 fun y B2 H2 e2 eB2 w2 ⟨a, kvs, ey, hy, hk⟩ => by
    cases rx
    subst ey
    refine ⟨a, _, rfl, .k (k := .inl i) (w2.ex _ _ hy), ?_⟩
    rw [hk]
    exact q _ B2 H2 (e1.trans e2) (eB1.trans eB2) w2 (.bl _)) stays_dp
theorem ev_dnin {i : Int} {ks : List Int} (ha : EvD K ta σ B (.int i)) (hd : EvR td σ B (DSet ks)) : EvD K (tDNotIn ta td) σ B (.bool (!decide (i ∈ ks))) :=
  evR_of (fun S H w Q q => ha.bind w fun x B1 H1 e1 eB1 w1 rx => (hd.mono eB1).bind w1 fun y B2 H2 e2 eB2 w2 ⟨a, kvs, ey, hy, hk⟩ => by
    cases rx
    subst ey
    refine ⟨a, _, rfl, .k (k := .inl i) (w2.ex _ _ hy), ?_⟩
    rw [hk]
    exact q _ B2 H2 (e1.trans e2) (eB1.trans eB2) w2 (.bl _)) stays_dp
theorem filter_yes {α : Type} (l : List α) : l.filter (fun _ => true) = l := by simp
end
end Pw

/-! ## PwIsi -/
namespace Pw
open PySem L2 Evl
/-- a datum's class -/
def tyN : PyData → String
  | .none => "NoneType"
  | .bool _ => "bool"
  | .int _ => "int"
  | .str _ => "str"
  | .list _ => "list"
  | .tuple _ => "tuple"
  | .dict _ => "dict"
section
variable {K : PySem.W.Frag} {σ : L2.St} {B H : Hp} {S : List Addr} {te ta tb td tl : TE} {tA : TA} {d : PyData} {b b1 b2 : Bool}
theorem tyx_of {v : V} (h : Dq K B v d) (e : Ex B H) : TyX K H v (.type (tyN d)) := by
  cases h with
  | non => exact .base .non
  | bl b => exact .base (.bl b)
  | int i => exact .base (.int i)
  | str x => exact .base (.str x)
  | lst hs _ =>
    rcases ex_l e hs with (h | ⟨o, h⟩) | ⟨o, _, _, h, hc, _⟩
    · exact .base (.lst h)
    · exact .base (.frz h)
    · exact .kList h hc
  | tup hs _ =>
    exact .base (.tup (e _ _ hs))
theorem ev_isi {T : String} (h : EvD K ta σ B d) (hb : kitB (tyN d) T = some b) : EvD K (tCB (rIsi K) (tCons ta (tCons (tC (.ty T)) tNil))) σ B (.bool b) :=
  evR_of (fun S H w Q q => h.bind w fun x B1 H1 e1 eB1 w1 rx => ⟨x, .ty T, _, _, b, rfl, .ty T, tyx_of rx w1.ex, kit_ty hb, q _ B1 H1 e1 eB1 w1 (.bl _)⟩) stays_dp
theorem ev_isi2 {T1 T2 : String} (h : EvD K ta σ B d) (h1 : kitB (tyN d) T1 = some b1) (h2 : kitB (tyN d) T2 = some b2) : EvD K (tCB (rIsiT K) (tCons ta (tCons (tTup (tCons (tC (.ty T1)) (tCons (tC (.ty T2)) tNil))) tNil))) σ B (.bool (b1 || b2)) :=
  evR_of (fun S H w Q q => h.bind w fun x B1 H1 e1 eB1 w1 rx => by
    refine ⟨(by show 2 ≤ sizeLine; decide), fun p hp => ⟨x, p, [.ty T1, .ty T2], _, [.type T1, .type T2], b1 || b2, rfl, upd_same, .cons (.ty T1) (.cons (.ty T2) .nil), tyx_of rx (w1.ex.trans (Ex.new hp)), ?_, q _ _ _ (e1.trans (Ex.new hp)) eB1 (w1.ext (Ex.new hp)) (.bl _)⟩⟩
    refine kitAny_cons (kit_ty h1) (fun z => ?_) (fun z => by rw [z]; rfl)
    rw [z, Bool.false_or]
    exact kitAny_cons (kit_ty h2) (fun z2 => by rw [z2]; exact kitAny_nil) fun z2 => z2) stays_dp
def rIsNs : R2 := fun x y H Q => y = .non ∧ Q (.bl (decide (x = .non))) H
theorem ev_isN (h : EvD K ta σ B d) (hb : (tyN d == "NoneType") = b) : EvD K (tOp rIsNs ta (tC .non)) σ B (.bool b) :=
  evR_of (fun S H w Q q => h.bind w fun x B1 H1 e1 eB1 w1 rx => by
    refine ⟨rfl, ?_⟩
    have e : decide (x = .non) = b := by
      subst hb
      cases rx <;> simp [tyN]
    rw [e]
    exact q _ B1 H1 e1 eB1 w1 (.bl _)) stays_dp
def rNotNs : R2 := fun x y H Q => y = .non ∧ Q (.bl (!decide (x = .non))) H
theorem ev_notN (h : EvD K ta σ B d) (hb : (tyN d == "NoneType") = b) : EvD K (tOp rNotNs ta (tC .non)) σ B (.bool (!b)) :=
  evR_of (fun S H w Q q => h.bind w fun x B1 H1 e1 eB1 w1 rx => by
    refine ⟨rfl, ?_⟩
    have e : decide (x = .non) = b := by
      subst hb
      cases rx <;> simp [tyN]
    rw [e]
    exact q _ B1 H1 e1 eB1 w1 (.bl _)) stays_dp
/-- things without parts -/
def atomD : PyData → Bool
  | .none => true
  | .bool _ => true
  | .int _ => true
  | .str _ => true
  | _ => false
/-- the same atom twice, by == -/
theorem ev_eqA (ha : EvD K ta σ B d) (hb : EvD K tb σ B d) (hd : atomD d = true) : EvD K (tOp rEq ta tb) σ B (.bool true) :=
  ev_op ha hb (fun x y B' H' Q hx hy _ q => by
    have e : x = y := by cases hx <;> cases hy <;> first | rfl | cases hd
    subst e
    refine ⟨?_, ?_⟩
    · cases hx <;> first | rfl | cases hd
    · rw [decide_eq_true rfl]
      exact q _ (.bl _)) stays_dp
theorem kit_list {x : PyData} (h : atomD x = true) : kitB (tyN x) "list" = some false ∧ kitB (tyN x) "tuple" = some false := by
  match x, h with
  | .none, _ => exact (by decide +kernel : kitB "NoneType" "list" = some false ∧ kitB "NoneType" "tuple" = some false)
  | .bool _, _ => exact (by decide +kernel : kitB "bool" "list" = some false ∧ kitB "bool" "tuple" = some false)
  | .int _, _ => exact (by decide +kernel : kitB "int" "list" = some false ∧ kitB "int" "tuple" = some false)
  | .str _, _ => exact (by decide +kernel : kitB "str" "list" = some false ∧ kitB "str" "tuple" = some false)
theorem kit_strbool {x : PyData} (h : atomD x = true) : kitB (tyN x) "str" = some (tyN x == "str") ∧ kitB (tyN x) "bool" = some (tyN x == "bool") := by
  match x, h with
  | .none, _ => exact (by decide +kernel : kitB "NoneType" "str" = some ("NoneType" == "str") ∧ kitB "NoneType" "bool" = some ("NoneType" == "bool"))
  | .bool _, _ => exact (by decide +kernel : kitB "bool" "str" = some ("bool" == "str") ∧ kitB "bool" "bool" = some ("bool" == "bool"))
  | .int _, _ => exact (by decide +kernel : kitB "int" "str" = some ("int" == "str") ∧ kitB "int" "bool" = some ("int" == "bool"))
  | .str _, _ => exact (by decide +kernel : kitB "str" "str" = some ("str" == "str") ∧ kitB "str" "bool" = some ("str" == "bool"))
theorem kit_int {x : PyData} (h : atomD x = true) (h1 : (tyN x == "NoneType" || tyN x == "str") = false) (h2 : (tyN x == "bool") = false) : kitB (tyN x) "int" = some true := by
  match x, h with
  | .none, _ => cases h1
  | .bool _, _ => cases h2
  | .int _, _ => exact (by decide +kernel : kitB "int" "int" = some true)
  | .str _, _ => cases h1
end
end Pw

/-! ## PwDraw -/
namespace Pw
open PySem L2 Evl
/-! ### expressions that draw from the box b -/
abbrev lid : Nat := 2 ^ 40
def EvX (S : List Addr) (b : Addr) (k : Nat) (te : TE) (σ : L2.St) (B : Hp) (R : V → Hp → Prop) : Prop :=
  ∀ H c, Wd S B H → b ∈ S → BoxAt H b c → c + k ≤ lid → ∀ Q : VK, (∀ v H', Xs [b] H H' → BoxAt H' b (c + k) → R v (mi H' S) → Q v H') → te σ H Q
section
variable {K : PySem.W.Frag} {σ : L2.St} {B H H' : Hp} {S : List Addr} {b : Addr} {k m c : Nat} {te ta tb tl : TE} {tt : TT} {tA : TA} {wi : TI} {g : TG} {R R' : V → Hp → Prop}
theorem Wd.xs (w : Wd S B H) (hb : b ∈ S) (h : BoxAt H b m) (x : Xs [b] H H') (h' : BoxAt H' b c) : Wd S (mi H' S) H' := ⟨mi_ex, fun s m => mi_no m, fun s m => by
  by_cases q : s = b
  · rw [q]; exact h'.some
  · obtain ⟨o, e⟩ := w.at_ s m
    exact ⟨o, x s o (fun z => q (List.mem_singleton.mp z)) e⟩⟩
theorem Wd.xsE (w : Wd S B H) (hb : b ∈ S) (x : Xs [b] H H') : Ex B (mi H' S) := ex_mi (x.ex1 w.ex (w.no b hb)) w.no
theorem EvX.bind (h : EvX S b k te σ B R) {Q : VK} (w : Wd S B H) (hb : b ∈ S) (hB : BoxAt H b c) (hl : c + k ≤ lid) (q : ∀ v B' H', Xs [b] H H' → Ex B B' → Wd S B' H' → BoxAt H' b (c + k) → R v B' → Q v H') : te σ H Q :=
  h H c w hb hB hl Q fun v H' x hB' r => q v _ H' x (w.xsE hb x) (w.xs hb hB x hB') hB' r
theorem EvX.mono {B' : Hp} (e : Ex B B') (h : EvX S b k te σ B R) : EvX S b k te σ B' R := fun H c w hb hB hl Q q => h H c (w.back e) hb hB hl Q q
theorem EvX.more (h : EvX S b k te σ B R) (hk : k ≤ m) : EvX S b m te σ B R := fun H c w hb hB hl Q q => h H c w hb hB (by omega) Q fun v H' x hB' r => q v H' x (hB'.mono (by omega)) r
theorem EvX.imp (h : EvX S b k te σ B R) (i : ∀ v B', R v B' → R' v B') : EvX S b k te σ B R' := fun H c w hb hB hl Q q => h H c w hb hB hl Q fun v H' x hB' r => q v H' x hB' (i _ _ r)
theorem evX_of (h : ∀ H c, Wd S B H → b ∈ S → BoxAt H b c → c + k ≤ lid → ∀ Q : VK, (∀ v B' H', Xs [b] H H' → Ex B B' → Wd S B' H' → BoxAt H' b (c + k) → R v B' → Q v H') → te σ H Q) (st : Stays R) : EvX S b k te σ B R :=
  fun H c w hb hB hl Q q => h H c w hb hB hl Q fun v B' H' x e w' hB' r => q v H' x hB' (st _ _ _ (ex_mi w'.ex w'.no) r)
/-- one that draws nothing -/
theorem EvR.x (h : EvR te σ B R) : EvX S b 0 te σ B R := fun H c w hb hB hl Q q => h S H w Q fun v H' e r => q v H' (Xs.of e) (hB.ex e) r
theorem stays_ex {α : Type} {p : α → Prop} {f : α → PyData} : Stays fun v B => ∃ a, p a ∧ Dq K B v (f a) := fun v B B' e ⟨a, h1, h2⟩ => ⟨a, h1, Dq.mono e h2⟩
/-- an int drawn -/
abbrev IntIn (K : PySem.W.Frag) (p : Int → Prop) (v : V) (B : Hp) : Prop := ∃ i : Int, p i ∧ Dq K B v (.int i)
theorem stays_int {p : Int → Prop} : Stays (IntIn K p) := stays_ex
theorem EvX.get {p : Int → Prop} (h : EvX S b k te σ B (IntIn K p)) {Q : VK} (w : Wd S B H) (hb : b ∈ S) (hB : BoxAt H b c) (hl : c + k ≤ lid) (q : ∀ i B' H', p i → Xs [b] H H' → Ex B B' → Wd S B' H' → BoxAt H' b (c + k) → Q (.int i) H') : te σ H Q :=
  h.bind w hb hB hl fun v B' H' x e w' hB' ⟨i, hi, r⟩ => by cases r; exact q i B' H' hi x e w' hB'

/-- [e for x in l if t], t or e drawing -/
theorem ex_lc {α β : Type} (l : List α) (enc : α → PyData) (encY : β → PyData) (Pr : Nat → List β → Prop) {vs : List Nat} (hk : WkD K wi σ B (l.map enc)) (hl : l.length ≤ 40000) (h0 : Pr 0 []) (hlen : ∀ i ys, Pr i ys → ys.length ≤ i)
    (turn : ∀ i a ys, l[i]? = some a → Pr i ys → ∀ x S' B' H' c', Ex B B' → Wd S' B' H' → b ∈ S' → BoxAt H' b c' → c' + k ≤ lid → Dq K B' x (enc a) → ∀ (Qy : VK) (Qn : Hp → Prop),
      (∀ y yv B2 H2, Xs [b] H' H2 → BoxAt H2 b (c' + k) → Wd S' B2 H2 → Ex B' B2 → Dq K B2 yv (encY y) → Pr (i + 1) (ys ++ [y]) → Qy yv H2) → (Pr (i + 1) ys → ∀ B2 H2, Xs [b] H' H2 → BoxAt H2 b (c' + k) → Wd S' B2 H2 → Ex B' B2 → Qn H2) →
      g x (wipe σ vs) H' fun σ2 H2 => wipe σ2 vs = wipe σ vs ∧ tt σ2 H2 fun b H3 => if b = true then te σ2 H3 Qy else Qn H3) :
    EvX S b (l.length * k) (tLc wi g tt te vs) σ B (fun v B' => ∃ ys, Pr l.length ys ∧ Dq K B' v (.list (ys.map encY))) := fun H c w hb hB hlid Q q => by
  refine hk S H w _ fun J B1 H1 e1 eB1 w1 hgo hstop hyld Dl hD => ?_
  rw [List.length_map] at hgo hstop hyld
  have nbD : Dl ≠ b := fun z => by
    obtain ⟨o, ho⟩ := (hB.ex e1).some
    rw [← z, hD] at ho
    cases ho
  refine ⟨fun i m H' => m = l.length - i ∧ i ≤ l.length ∧ Xs [b] H1 H' ∧ BoxAt H' b (c + i * k) ∧ ∃ B' acc ys, Ex B1 B' ∧ Wd (Dl :: S) B' H' ∧ H' Dl = some (.lst acc) ∧ Pr i ys ∧ DqAll K B' acc (ys.map encY),
    ⟨l.length, by omega, Nat.zero_le _, Xs.of (Ex.new hD), ((hB.ex e1).ex (Ex.new hD)).mono (by omega), B1, [], [], Ex.refl _, w1.own hD, upd_same, h0, .nil⟩, ?_⟩
  rintro i m H2 ⟨rfl, hi, xH, hB2, B2, acc, ys, eB2, w2, hA, hP, hd⟩
  by_cases hlt : i < l.length
  · obtain ⟨a, ha⟩ : ∃ a, l[i]? = some a := ⟨l[i], List.getElem?_eq_getElem hlt⟩
    have hmul : (i + 1) * k ≤ l.length * k := Nat.mul_le_mul_right k hlt
    have hsuc : (i + 1) * k = i * k + k := Nat.succ_mul i k
    refine .inr ⟨hgo i H2 (eB2.trans w2.ex) hlt, fun H' => Xs [b] H1 H' ∧ BoxAt H' b (c + (i + 1) * k) ∧ ∃ B' acc ys, Ex B1 B' ∧ Wd (Dl :: S) B' H' ∧ H' Dl = some (.lst acc) ∧ Pr (i + 1) ys ∧ DqAll K B' acc (ys.map encY), fun H' ⟨h1, h2, h3⟩ => ⟨l.length - (i + 1), by omega, rfl, by omega, h1, h2, h3⟩, fun x H3 hy => ?_⟩
    obtain ⟨B3, e3, eB3, w3, d, hd1, hd2⟩ := hyld i (Dl :: S) B2 H2 x H3 eB2 w2 hlt hy
    have ed : enc a = d := by
      rw [List.getElem?_map, ha] at hd1
      exact Option.some.inj hd1
    subst ed
    have hA3 := e3 _ _ hA
    have hlen2 : acc.length ≤ 40000 := by
      have := hlen _ _ hP
      rw [DqAll.length hd, List.length_map]
      omega
    refine turn i a ys ha hP x (Dl :: S) B3 H3 (c + i * k) (eB1.trans (eB2.trans eB3)) w3 (List.mem_cons_of_mem _ hb) (hB2.ex e3) (by omega) hd2 _ _ (fun y yv B4 H4 x4 hB4 w4 eB4 hy4 hP4 => ?_) (fun hP4 B4 H4 x4 hB4 w4 eB4 => ?_)
    · have hA4 := x4 _ _ (fun z => nbD (List.mem_singleton.mp z)) hA3
      refine ⟨acc, hA4, sz_lt (by omega), ?_, (hB4.mono (by omega)).upd nbD.symm, B4, acc ++ [yv], ys ++ [y], eB2.trans (eB3.trans eB4), w4.put List.mem_cons_self, upd_same, hP4, ?_⟩
      · intro p o hp ho
        rw [upd_ne (ne_of_none ho hD)]
        exact x4 p o hp (e3 _ _ (xH p o hp ho))
      · rw [List.map_append]
        exact DqAll.snoc (DqAll.mono (eB3.trans eB4) hd) hy4
    · exact ⟨xH.trans ((Xs.of e3).trans x4), hB4.mono (by omega), B4, acc, ys, eB2.trans (eB3.trans eB4), w4, x4 _ _ (fun z => nbD (List.mem_singleton.mp z)) hA3, hP4, DqAll.mono (eB3.trans eB4) hd⟩
  · have ei : i = l.length := by omega
    subst ei
    refine .inl ⟨hstop _ H2 (eB2.trans w2.ex) rfl, q _ _ ((Xs.of e1).trans xH) hB2 ?_⟩
    have w4 := w2.give hA (w1.nin hD)
    exact ⟨ys, hP, Dq.mono (ex_mi w4.ex w4.no) (.lst (sq_of upd_same) (DqAll.mono w2.giveE hd))⟩
end
/-! ### the promises of the law's draws -/
theorem b01 (c : Bool) : -(2 ^ 64) < (if c = true then (1 : Int) else 0) ∧ (if c = true then (1 : Int) else 0) < 2 ^ 64 := by cases c <;> decide
theorem b0 (c : Bool) : 0 ≤ (if c = true then (1 : Int) else 0) := by cases c <;> decide
def spCellAt (K : PySem.W.Frag) : Sp := fun vs H Q _ => ∃ (l : Addr) (ns : List Int) (k : Nat), vs = [.ref l, .int (k : Int)] ∧ SqL K H l (ns.map V.int) ∧ ∀ z, Q (.int z) H
def spBox (K : PySem.W.Frag) : Sp := fun vs H Q _ => ∃ (l : Addr) (ns : List Int) (k : Nat), vs = [.ref l, .int (k : Int)] ∧ SqL K H l (ns.map V.int) ∧ k < 100 ∧ ∀ b H', H b = none → Ex H H' → BoxAt H' b 0 → Q (.ref b) H'
def spTake : Sp := fun vs H Q _ => ∃ (b : Addr) (m : Int) (c : Nat), vs = [.ref b, .int m] ∧ BoxAt H b c ∧ c < 2 ^ 40 ∧ 1 ≤ m ∧ m < 2 ^ 100 ∧ ∀ v H', 0 ≤ v → v < m → Bx b (c + 1) H H' → Q (.int v) H'
/-- a number from the least one to few, or from seven to the most -/
def spMany : Sp := fun vs H Q _ => ∃ (b : Addr) (l f m : Int) (c : Nat), vs = [.ref b, .int l, .int f, .int m] ∧ BoxAt H b c ∧ c + 2 < 2 ^ 40 ∧ l ≤ f ∧ 7 ≤ m ∧ m < 2 ^ 60 ∧ f - l < 2 ^ 60 ∧ ∀ v H', (l ≤ v ∧ v ≤ f ∨ 7 ≤ v ∧ v ≤ m) → Bx b (c + 2) H H' → Q (.int v) H'
def spWeight : Sp := fun vs H Q _ => ∃ (b : Addr) (h : Int) (c : Nat), vs = [.ref b, .int h] ∧ BoxAt H b c ∧ c + 2 < 2 ^ 40 ∧ 0 ≤ h ∧ h < 4 ∧ ∀ v H', 1 ≤ v → v ≤ 1000000000 → Bx b (c + 2) H H' → Q (.int v) H'
def spWeb (K : PySem.W.Frag) : Sp := fun vs H Q _ => ∃ (S : List Addr) (b : Addr) (n : Int) (c : Nat), vs = [.ref b, .int n] ∧ b ∈ S ∧ (∀ s ∈ S, ∃ o, H s = some o) ∧ BoxAt H b c ∧ c + 1000 < 2 ^ 40 ∧ 1 ≤ n ∧ n ≤ 30 ∧
  ∀ v H' ts, WebOk n ts → Dq K (mi H' S) v (webD n ts) → Bx b (c + 1000) H H' → Q v H'
theorem Bx.def {S : List Addr} {b : Addr} {c : Nat} {H H' : Hp} (h : Bx b c H H') (hS : ∀ s ∈ S, ∃ o, H s = some o) : ∀ s ∈ S, ∃ o, H' s = some o := fun s m => by
  by_cases q : s = b
  · rw [q]; exact h.at_.some
  · obtain ⟨o, e⟩ := hS s m
    exact ⟨o, h.at q e⟩
theorem nin_def {S : List Addr} {H : Hp} {p : Addr} (hS : ∀ s ∈ S, ∃ o, H s = some o) (hp : H p = none) : p ∉ S := fun m => by
  obtain ⟨o, e⟩ := hS p m
  rw [hp] at e
  cases e
section
variable {K : PySem.W.Frag} {σ : L2.St} {B H H' : Hp} {S : List Addr} {b : Addr} {k m c : Nat} {te ta tb tl tm : TE} {E : XK}
theorem ex_take {i : Nat} {m : Int} (h : σ[i]? = some (some (.ref b))) (hm : EvD K tm σ B (.int m)) (h1 : 1 ≤ m) (h2 : m < 2 ^ 100) : EvX S b 1 (tCall spTake [] E (tCons (tVar i) (tCons tm tNil))) σ B (IntIn K fun v => 0 ≤ v ∧ v < m) :=
  evX_of (fun H c w hb hB hl Q q => ⟨_, h, hm.bind w fun x B1 H1 e1 eB1 w1 rx => by
    cases rx
    refine ⟨b, m, c, rfl, hB.ex e1, by unfold lid at hl; omega, h1, h2, fun v H2 g1 g2 hx => ?_⟩
    have x2 : Xs [b] H H2 := (Xs.of e1).trans hx.x
    exact q (.int v) (mi H2 S) H2 x2 (w.xsE hb x2) (w.xs hb hB x2 hx.at_) hx.at_ ⟨v, ⟨g1, g2⟩, .int v⟩⟩) stays_int
end
theorem Wd.ownX {S : List Addr} {B H H' : Hp} {b : Addr} (w : Wd S B H) (h : H b = none) (e : Ex H H') (d : ∃ o, H' b = some o) : Wd (b :: S) B H' := by
  refine ⟨w.ex.trans e, fun s m => ?_, fun s m => ?_⟩
  · rcases List.mem_cons.mp m with rfl | m
    · exact w.fresh h
    · exact w.no s m
  · rcases List.mem_cons.mp m with rfl | m
    · exact d
    · exact (w.ext e).at_ s m
theorem Wd.bx {S : List Addr} {B H H' : Hp} {b : Addr} {c : Nat} (w : Wd S B H) (hb : b ∈ S) (x : Bx b c H H') : Wd S (mi H' S) H' ∧ Ex B (mi H' S) :=
  ⟨⟨mi_ex, fun s m => mi_no m, x.def w.at_⟩, w.xsE hb x.x⟩
def spLaw (K : PySem.W.Frag) : Sp := fun vs H Q _ => ∃ (a : Addr) (ns : List Int), vs = [.ref a] ∧ SqL K H a (ns.map V.int) ∧ ns.length ≤ 63 ∧ ∀ H', Q (.bl true) H'
theorem two_args {K : PySem.W.Frag} {B : Hp} {vs : List V} {a b : PyData} (h : DqAll K B vs [a, b]) : ∃ v1 v2, vs = [v1, v2] ∧ Dq K B v1 a ∧ Dq K B v2 b := by
  cases h with
  | cons h1 t => cases t with
    | cons h2 t => cases t; exact ⟨_, _, rfl, h1, h2⟩
end Pw

/-! ## PwDT -/
namespace Pw
open PySem PySem.Spec PyProof.Rows L2 PySem.W Evl
/-! ### dict(a list of pairs whose keys are tuples of ints) -/
def mergeT (kvs more : List (List Key × V)) : List (List Key × V) := more.foldl (fun acc kv => putK acc kv.1 kv.2) kvs
theorem length_mergeT : ∀ (more kvs : List (List Key × V)), (mergeT kvs more).length ≤ kvs.length + more.length
  | [], kvs => by show kvs.length ≤ kvs.length + 0; omega
  | p :: r, kvs => by
    have h1 := length_mergeT r (putK kvs p.1 p.2)
    have h2 := length_putK kvs p.1 p.2
    show (mergeT (putK kvs p.1 p.2) r).length ≤ _
    rw [List.length_cons]; omega
theorem KT.merge {H : Hp} : ∀ {more : List (List Key × V)} {rs : List (List Key × Addr × Value)} {kvs : List (List Key × V)} {vs : List (List Key × Addr × Value)}, KT H more rs → KT H kvs vs → KT H (mergeT kvs more) (storedAllH vs rs) := by
  intro more rs kvs vs r
  induction r generalizing kvs vs with
  | nil => intro q; exact q
  | @cons p q ps qs h t ih =>
    intro r0
    have e : KT H (putK kvs p.1 p.2) (storedH vs q.1 q.2.1 q.2.2) := by
      have := r0.put p.1 h.2.1 h.2.2
      rw [← h.1]; exact this
    exact ih e
/-- a pair's tuple, its key's tuple, the key's ints, the value -/
abbrev PairT := Addr × Addr × List Int × V
def kvT (t : PairT) : List Key × V := (t.2.2.1.map Sum.inl, t.2.2.2)
theorem vals_refT {α : Type} {f : α → Addr} : ∀ {ts : List α} {its : List Value}, Vals (ts.map fun t => V.ref (f t)) its → its = ts.map fun t => Value.ref (f t)
  | [], _, r => by cases r; rfl
  | t :: ts, _, r => by
    cases r with
    | cons r1 r2 => rw [show _ = Value.ref (f t) from r1, vals_refT r2]; rfl
section
variable {X : Cx}
theorem pairsT {pins : List (Addr × Obj)} {σ : L2.St} {H : Hp} {s : Shared} (I : L2.Inv X pins σ H s) : ∀ {ts : List PairT}, (∀ t ∈ ts, SqT X.K H t.1 [.ref t.2.1, t.2.2.2] ∧ H t.2.1 = some (.tup (t.2.2.1.map V.int))) →
    ∃ prs : List (List Key × Addr × Value), KT H (ts.map kvT) prs ∧ prs.length = ts.length ∧ ∀ (j : Nat) (q : List Key × Addr × Value), prs[j]? = some q → ∃ t, ts[j]? = some t ∧ q.2.1 = t.2.1 ∧ s.heap.IsTuple t.1 #[.ref q.2.1, q.2.2]
  | [], _ => ⟨[], .nil, rfl, fun j q e => by simp at e⟩
  | t :: ts, h => by
    obtain ⟨prs, h1, h2, h3⟩ := pairsT I (ts := ts) fun u hu => h u (List.mem_cons_of_mem _ hu)
    obtain ⟨g1, g2⟩ := h t List.mem_cons_self
    obtain ⟨its, rv, ht, _⟩ := I.tuple g1
    cases rv with
    | cons r1 rv =>
    cases rv with
    | @cons _ u _ _ r2 rv =>
    cases rv
    cases (show _ = Value.ref t.2.1 from r1)
    refine ⟨(t.2.2.1.map Sum.inl, t.2.1, u) :: prs, .cons ⟨rfl, by rw [g2]; show _ = some (HO.tup ((t.2.2.1.map Sum.inl).map kV)); rw [List.map_map]; rfl, r2⟩ h1, by rw [List.length_cons, List.length_cons, h2], fun j q e => ?_⟩
    cases j with
    | zero =>
      rw [List.getElem?_cons_zero] at e
      cases e
      obtain ⟨o, a1, a2, a3⟩ := ht
      exact ⟨t, rfl, rfl, o, a1, a2, a3⟩
    | succ j => exact h3 j q (by simpa using e)
theorem cr_dictT (hcalm : X.calm = true) (hu : X.A.units + 64 < cLine) : CallR X (.type "dict") (fun xs H Q => ∃ (a : Addr) (ts : List PairT), xs = [.ref a] ∧ SqL X.K H a (ts.map fun t => V.ref t.1) ∧ (∀ t ∈ ts, SqT X.K H t.1 [.ref t.2.1, t.2.2.2] ∧ H t.2.1 = some (.tup (t.2.2.1.map V.int))) ∧
    ∀ p, H p = none → Q (.ref p) (upd H p (.dT (mergeT [] (ts.map kvT))))) := by
  intro pins s σ H xs us Q I r q
  obtain ⟨a, ts, rfl, hq, hp, q⟩ := q
  obtain ⟨u, rfl, rx⟩ := vals1 r
  cases rx
  obtain ⟨its, rv, pl, hz⟩ := I.list hq
  rw [List.length_map] at hz
  have ei := vals_refT rv
  subst ei
  obtain ⟨prs, hkt, hlen, hpr⟩ := pairsT I hp
  obtain ⟨o, n, ho, hc, hd, hdat⟩ := pl
  have hplen : (prs.map fun q => (Value.ref q.2.1, q.2.2)).length = prs.length := List.length_map _
  have hkeys : ∀ x ∈ prs, H x.2.1 = some (.tup (x.1.map kV)) := by
    have all : ∀ {l : List (List Key × V)} {m : List (List Key × Addr × Value)}, KT H l m → ∀ x ∈ m, H x.2.1 = some (.tup (x.1.map kV)) := by
      intro l m q
      induction q with
      | nil => intro x hx; exact nomatch hx
      | @cons p q ps qs hq t ih =>
        intro x hx
        rcases List.mem_cons.mp hx with e | hx
        · subst e
          rw [← hq.1]
          exact hq.2.1
        · exact ih x hx
    exact all hkt
  refine call_dict_pairsH (knd := tupleKind (mixKind X.prog X.w)) (ps := prs) (PairArg.list a (ts.map fun t => Value.ref t.1).toArray (fun j => ((ts[j]?).map (·.1)).getD 0) (prs.map fun q => (Value.ref q.2.1, q.2.2))) (I.ok.hd hcalm) (show X.A.in1.in1.units < cLine from by show X.A.units + 1 + 1 < cLine; omega) ⟨⟨o, n, ho, hc, hd, hdat⟩, ?_, ?_⟩ ⟨hplen.symm, ?_⟩ ?_ (by rw [hplen, hlen]; exact hz) fun h' tk hd' hk => ?_
  · rw [List.size_toArray, List.length_map, hplen, hlen]
  · intro j k v e
    rw [List.getElem?_map] at e
    obtain ⟨q', hq', eq⟩ := Option.map_eq_some_iff.mp e
    cases eq
    obtain ⟨t, ht, e1, e2⟩ := hpr j q' hq'
    refine ⟨?_, ?_⟩
    · rw [List.getElem?_toArray, List.getElem?_map, ht]
      show some (Value.ref t.1) = some (Value.ref (((ts[j]?).map (·.1)).getD 0))
      rw [ht]
      rfl
    · show PairAt s.heap (((ts[j]?).map (·.1)).getD 0) _ _
      rw [ht]
      exact .inl e2
  · intro i key v e
    rw [PairRel, List.getElem?_map] at e
    obtain ⟨q', hq', eq⟩ := Option.map_eq_some_iff.mp e
    cases eq
    exact ⟨q'.1, q'.2.1, hq', rfl⟩
  · intro h' hk x hx
    obtain ⟨o2, items, n2, g1, g2, g3, g4⟩ := key_of I.hok (hkeys x hx)
    exact ⟨o2, items, n2, hk _ _ (Nat.ne_of_lt (Heap.lt_size g1)) (fun z => nomatch z) g1, g2, g3, g4⟩
  · have hm : (s.heap.objs.size == sysModules) = false := beq_eq_false_iff_ne.mpr (Nat.ne_of_gt I.big)
    have hml : (mergeT [] (ts.map kvT)).length ≤ sizeLine := by
      refine Nat.le_trans (length_mergeT _ []) ?_
      rw [List.length_nil, Nat.zero_add, List.length_map]
      exact hz
    have hkt2 : KT H (mergeT [] (ts.map kvT)) (storedAllH [] prs) := KT.merge hkt .nil
    have hn : H s.heap.objs.size = none := I.hok.fresh (Nat.le_refl _)
    obtain ⟨o3, es, ep, g1, g2, g3, g4, _, g5⟩ := hd'
    refine ⟨.ref s.heap.objs.size, upd H s.heap.objs.size (.dT (mergeT [] (ts.map kvT))), I.laid (t' := tk) (fun b u e => hk b u (fun z => nomatch z) e) (Nat.le_refl _) ⟨hml, hm, storedAllH [] prs, hkt2.keeps fun b ys e => ?_, o3, es, ep, g1, g2, g3, g4, g5⟩, rfl, q _ hn⟩
    rw [upd_ne (ne_of_none e hn)]
    exact e
/-- d.update(e), two dicts of ints and texts -/
theorem mt_updK : MtR X "dict.update" (fun x xs H Q => ∃ (d o : Addr) (kvs more : List (Key × V)), x = .ref d ∧ xs = [.ref o] ∧ H d = some (.dK kvs) ∧ H o = some (.dK more) ∧ d ≠ o ∧ kvs.length + more.length ≤ sizeLine ∧ Q .non (upd H d (.dK (mergeK kvs more)))) := by
  intro pins s σ H x xs v us Q I rx rv h
  obtain ⟨d, o, kvs, more, rfl, rfl, hd, ho, hne, hsz, q⟩ := h
  cases rx
  obtain ⟨u, rfl, ru⟩ := rv.one
  cases ru
  obtain ⟨z1, l1, vs, rel1, dd1⟩ := dk_of I.hok hd
  obtain ⟨z2, l2, ws, rel2, dd2⟩ := dk_of I.hok ho
  refine call_meetsIn PySem.F.slot_dict_update dd1.typeIs PySem.F.entry_dict_update (PySem.F.args_dict_update_2 _ _) (meets_dict_update (mixKind X.prog X.w) d o hne l2) ⟨vs, ws, dd1, dd2, by rw [← rel1.length, ← rel2.length]; exact hsz, fun h' hd' ho' hs => ?_⟩
  have hml : (mergeK kvs more).length ≤ sizeLine := Nat.le_trans (length_mergeK more kvs) hsz
  refine ⟨.non, _, d_write I (by rw [hd]; exact True.intro) hs (let ⟨q, _, _, hq, _⟩ := hd'; ⟨q, hq⟩) (dk_new hml l1 (KV.merge rel2 rel1) hd'), rfl, q⟩
end
section
variable {K : PySem.W.Frag} {σ : L2.St} {B H : Hp} {S : List Addr} {te ta tb td tl : TE} {tA : TA} {R R' : V → Hp → Prop} {d d' : PyData} {ds ds' : List PyData}
/-! ### pairs as a dict's keys -/
abbrev pairD (k : Int × Int) : PyData := .tuple [.int k.1, .int k.2]
def DPairs (ks : List (Int × Int)) (v : V) (B : Hp) : Prop := ∃ a kvs, v = .ref a ∧ B a = some (.dT kvs) ∧ ∀ x y : Int, (valV kvs (kPair x y)).isSome = decide ((x, y) ∈ ks)
theorem stays_dpairs {ks : List (Int × Int)} : Stays (DPairs ks) := fun v B B' e ⟨a, kvs, h1, h2, h3⟩ => ⟨a, kvs, h1, e _ _ h2, h3⟩
def rDictT (K : PySem.W.Frag) : List V → Hp → VK → Prop := fun xs H Q => ∃ (a : Addr) (ts : List PairT), xs = [.ref a] ∧ SqL K H a (ts.map fun t => V.ref t.1) ∧ (∀ t ∈ ts, SqT K H t.1 [.ref t.2.1, t.2.2.2] ∧ H t.2.1 = some (.tup (t.2.2.1.map V.int))) ∧
    ∀ p, H p = none → Q (.ref p) (upd H p (.dT (mergeT [] (ts.map kvT))))
theorem pairs_tups {f : Int × Int → PyData} : ∀ {ks : List (Int × Int)} {xs : List V}, DqAll K B xs (ks.map fun k => .tuple [pairD k, f k]) →
    ∃ ts : List PairT, xs = ts.map (fun t => V.ref t.1) ∧ (∀ t ∈ ts, B t.1 = some (.tup [.ref t.2.1, t.2.2.2]) ∧ B t.2.1 = some (.tup (t.2.2.1.map V.int))) ∧ ts.map (fun t => (kvT t).1) = ks.map fun k => kPair k.1 k.2
  | [], _, h => by cases h; exact ⟨[], rfl, (fun t ht => by cases ht), rfl⟩
  | k :: ks, _, h => by
    cases h with
    | cons h1 h2 =>
    obtain ⟨ts, rfl, h3, h4⟩ := pairs_tups h2
    cases h1 with
    | @tup a ys _ hs hd =>
    cases hd with
    | @cons y1 _ _ _ q1 t =>
    cases t with
    | @cons y2 _ _ _ q2 t =>
    cases t
    cases q1 with
    | @tup b zs _ hb hz =>
    have ez := DqAll.ints_eq (ns := [k.1, k.2]) hz
    subst ez
    refine ⟨(a, b, [k.1, k.2], y2) :: ts, rfl, fun t ht => ?_, by rw [List.map_cons, List.map_cons, h4]; rfl⟩
    rcases List.mem_cons.mp ht with rfl | ht
    · exact ⟨hs, hb⟩
    · exact h3 t ht
theorem mergeT_iff (k : List Key) : ∀ (kvs acc : List (List Key × V)), (valV (mergeT acc kvs) k).isSome = true ↔ ((valV acc k).isSome = true ∨ k ∈ kvs.map fun p => p.1)
  | [], acc => by
    show (valV acc k).isSome = true ↔ _
    simp
  | p :: r, acc => by
    have ih := mergeT_iff k r (putK acc p.1 p.2)
    show (valV (mergeT (putK acc p.1 p.2) r) k).isSome = true ↔ _
    rw [ih, valV_put, List.map_cons, List.mem_cons]
    by_cases h : k = p.1
    · rw [if_pos h]
      simp [h]
    · rw [if_neg h]
      simp [h]
theorem kPair_inj {a b c d : Int} (h : kPair a b = kPair c d) : a = c ∧ b = d := by
  unfold kPair at h
  simp only [List.cons.injEq, Sum.inl.injEq] at h
  exact ⟨h.1, h.2.1⟩
theorem mem_kPair {x y : Int} {ks : List (Int × Int)} : kPair x y ∈ ks.map (fun k => kPair k.1 k.2) ↔ (x, y) ∈ ks := by
  rw [List.mem_map]
  constructor
  · rintro ⟨k, hk, e⟩
    obtain ⟨e1, e2⟩ := kPair_inj e
    rw [← e1, ← e2]
    exact hk
  · intro h
    exact ⟨(x, y), h, rfl⟩
theorem ev_dpairs {ks : List (Int × Int)} {f : Int × Int → PyData} (h : EvD K ta σ B (.list (ks.map fun k => .tuple [pairD k, f k]))) : EvR (tCB (rDictT K) (tCons ta tNil)) σ B (DPairs ks) :=
  evR_of (fun S H w Q q => (ea_cons h ea_nil).bind w fun vs B1 H1 e1 eB1 w1 rs => by
    cases rs with
    | cons r1 r2 =>
    cases r2
    cases r1 with
    | @lst a xs _ hs hd =>
    obtain ⟨ts, rfl, ht, hk⟩ := pairs_tups hd
    refine ⟨a, ts, rfl, ex_l w1.ex hs, fun t m => ⟨st_of (w1.ex _ _ (ht t m).1), w1.ex _ _ (ht t m).2⟩, fun p hp => q (.ref p) _ _ (e1.trans (Ex.new hp)) (eB1.trans (w1.newE (o := .dT (mergeT [] (ts.map kvT))) hp)) (w1.new hp) ⟨p, _, rfl, upd_same, fun x y => ?_⟩⟩
    rw [Bool.eq_iff_iff, decide_eq_true_iff, mergeT_iff, List.map_map]
    have e : (ts.map ((fun x => x.1) ∘ kvT)) = ks.map fun k => kPair k.1 k.2 := hk
    rw [e, valV_nil]
    constructor
    · rintro (h | h)
      · cases h
      · exact mem_kPair.mp h
    · exact fun h => .inr (mem_kPair.mpr h)) stays_dpairs
theorem ev_tin {x y : Int} {ks : List (Int × Int)} (ha : EvD K ta σ B (pairD (x, y))) (hd : EvR td σ B (DPairs ks)) : EvD K (tDIn ta td) σ B (.bool (decide ((x, y) ∈ ks))) :=
  evR_of (fun S H w Q q => ha.bind w fun v B1 H1 e1 eB1 w1 rx => (hd.mono eB1).bind w1 fun u B2 H2 e2 eB2 w2 ⟨a, kvs, ey, hy, hk⟩ => by
    cases rx with
    | @tup b zs _ hb hz =>
    have ez := DqAll.ints_eq (ns := [x, y]) hz
    subst ez
    subst ey
    refine ⟨a, _, rfl, .t (k := kPair x y) (w2.ex _ _ hy) (w2.ex _ _ (eB2 _ _ hb)), ?_⟩
    rw [hk]
    exact q _ B2 H2 (e1.trans e2) (eB1.trans eB2) w2 (.bl _)) stays_dp
theorem ev_tnin {x y : Int} {ks : List (Int × Int)} (ha : EvD K ta σ B (pairD (x, y))) (hd : EvR td σ B (DPairs ks)) : EvD K (tDNotIn ta td) σ B (.bool (!decide ((x, y) ∈ ks))) :=
  evR_of (fun S H w Q q => ha.bind w fun v B1 H1 e1 eB1 w1 rx => (hd.mono eB1).bind w1 fun u B2 H2 e2 eB2 w2 ⟨a, kvs, ey, hy, hk⟩ => by
    cases rx with
    | @tup b zs _ hb hz =>
    have ez := DqAll.ints_eq (ns := [x, y]) hz
    subst ez
    subst ey
    refine ⟨a, _, rfl, .t (k := kPair x y) (w2.ex _ _ hy) (w2.ex _ _ (eB2 _ _ hb)), ?_⟩
    rw [hk]
    exact q _ B2 H2 (e1.trans e2) (eB1.trans eB2) w2 (.bl _)) stays_dp

/-! ### slices -/
def EvP (to : TO) (σ : L2.St) (B : Hp) (o : Option Int) : Prop := ∀ S H, Wd S B H → ∀ Q : Option Int → Hp → Prop, (∀ H', Ex H H' → Q o H') → to σ H Q
theorem ep_none : EvP tNoPart σ B none := fun S H w Q q => q H (Ex.refl H)
theorem ep_some {i : Int} (h : EvD K ta σ B (.int i)) : EvP (tPart ta) σ B (some i) := fun S H w Q q => h.bind w fun v B1 H1 e1 eB1 w1 r => by cases r; exact ⟨i, rfl, q H1 e1⟩
theorem EvP.mono {to : TO} {o : Option Int} {B' : Hp} (e : Ex B B') (h : EvP to σ B o) : EvP to σ B' o := fun S H w Q q => h S H (w.back e) Q q
/-- a part of a list of anything -/
def cutA {α : Type} (xs : List α) (lo hi : Option Int) : List α := (xs.drop (HT.sIx xs.length 0 lo)).take (HT.sIx xs.length xs.length hi - HT.sIx xs.length 0 lo)
theorem dqAll_drop : ∀ {n : Nat} {vs : List V} {ds : List PyData}, DqAll K B vs ds → DqAll K B (vs.drop n) (ds.drop n)
  | 0, _, _, h => h
  | _ + 1, _, _, .nil => .nil
  | n + 1, _, _, .cons _ t => dqAll_drop (n := n) t
theorem dqAll_take : ∀ {n : Nat} {vs : List V} {ds : List PyData}, DqAll K B vs ds → DqAll K B (vs.take n) (ds.take n)
  | 0, _, _, _ => .nil
  | _ + 1, _, _, .nil => .nil
  | n + 1, _, _, .cons h t => .cons h (dqAll_take (n := n) t)
theorem dqAll_cut {vs : List V} (h : DqAll K B vs ds) (lo hi : Option Int) : DqAll K B (cutV vs lo hi) (cutA ds lo hi) := by
  unfold cutV cutA
  rw [DqAll.length h]
  exact dqAll_take (dqAll_drop h)
theorem ev_slL {tl th : TO} {lo hi : Option Int} (ha : EvD K ta σ B (.list ds)) (hl : EvP tl σ B lo) (hh : EvP th σ B hi) : EvD K (tSl (rSlL K) ta tl th) σ B (.list (cutA ds lo hi)) :=
  evR_of (fun S H w Q q => ha.bind w fun x B1 H1 e1 eB1 w1 rx => by
    cases rx with
    | @lst a xs _ hs hd =>
    refine hl.mono eB1 S H1 w1 _ fun H2 e2 => (hh.mono eB1) S H2 (w1.ext e2) _ fun H3 e3 => ⟨a, xs, rfl, ex_l (w1.ex.trans (e2.trans e3)) hs, fun p hp => ?_⟩
    have w3 := w1.ext (e2.trans e3)
    exact q (.ref p) _ _ (e1.trans ((e2.trans e3).trans (Ex.new hp))) (eB1.trans (w3.newE (o := .lst (cutV xs lo hi)) hp)) (w3.new hp) (.lst (sq_of upd_same) (DqAll.mono (w3.newE hp) (dqAll_cut hd lo hi)))) stays_dp
theorem ev_slT {tl th : TO} {lo hi : Option Int} (ha : EvD K ta σ B (.tuple ds)) (hl : EvP tl σ B lo) (hh : EvP th σ B hi) (hn : ¬ (HT.sIx ds.length 0 lo = 0 ∧ HT.sIx ds.length ds.length hi = ds.length)) : EvD K (tSl (rSlT K) ta tl th) σ B (.tuple (cutA ds lo hi)) :=
  evR_of (fun S H w Q q => ha.bind w fun x B1 H1 e1 eB1 w1 rx => by
    cases rx with
    | @tup a xs _ hs hd =>
    refine hl.mono eB1 S H1 w1 _ fun H2 e2 => (hh.mono eB1) S H2 (w1.ext e2) _ fun H3 e3 => ⟨a, xs, rfl, st_of (e3 _ _ (e2 _ _ (w1.ex _ _ hs))), by rw [DqAll.length hd]; exact hn, fun p hp => ?_⟩
    have w3 := w1.ext (e2.trans e3)
    exact q (.ref p) _ _ (e1.trans ((e2.trans e3).trans (Ex.new hp))) (eB1.trans (w3.newE (o := .tup (cutV xs lo hi)) hp)) (w3.new hp) (.tup upd_same (DqAll.mono (w3.newE hp) (dqAll_cut hd lo hi)))) stays_dp
/-- tie[:2] -/
theorem ev_pair {t : Tie} (ha : EvD K ta σ B (tieD t)) : EvD K (tSl (rSlT K) ta tNoPart (tPart (tC (.int 2)))) σ B (pairD (t.1, t.2.1)) :=
  ev_slT (lo := none) (hi := some 2) ha ep_none (ep_some (K := K) ev_int) (by show ¬ (HT.sIx 3 0 none = 0 ∧ HT.sIx 3 3 (some 2) = 3); decide)

/-! ### in a list of data; is True; zip -/
theorem ev_inD (ha : EvD K ta σ B d) (hb : EvD K tb σ B (.list ds)) (s1 : SeqAt.shaped d = true) (s2 : SeqAt.shaped (.list ds) = true) : EvD K (tOp (rInD K) ta tb) σ B (.bool (ds.any fun z => PyData.eqv z d)) :=
  ev_op ha hb (fun x y B' H' Q hx hy e q => ⟨d, ds, Dq.dp (Dq.mono e hx), Dq.dp (Dq.mono e hy), s1, s2, q _ (.bl _)⟩) stays_dp
theorem ev_ninD (ha : EvD K ta σ B d) (hb : EvD K tb σ B (.list ds)) (s1 : SeqAt.shaped d = true) (s2 : SeqAt.shaped (.list ds) = true) : EvD K (tOp (rNotInD K) ta tb) σ B (.bool (!ds.any fun z => PyData.eqv z d)) :=
  ev_op ha hb (fun x y B' H' Q hx hy e q => ⟨d, ds, Dq.dp (Dq.mono e hx), Dq.dp (Dq.mono e hy), s1, s2, q _ (.bl _)⟩) stays_dp
theorem ev_isB {a b : Bool} (ha : EvD K ta σ B (.bool a)) (hb : EvD K tb σ B (.bool b)) : EvD K (tOp rIsB ta tb) σ B (.bool (decide (a = b))) :=
  ev_op ha hb (fun x y B' H' Q hx hy e q => by cases hx; cases hy; exact ⟨a, b, rfl, rfl, q _ (.bl _)⟩) stays_dp
theorem ev_notB {a b : Bool} (ha : EvD K ta σ B (.bool a)) (hb : EvD K tb σ B (.bool b)) : EvD K (tOp rNotB ta tb) σ B (.bool (!decide (a = b))) :=
  ev_op ha hb (fun x y B' H' Q hx hy e q => by cases hx; cases hy; exact ⟨a, b, rfl, rfl, q _ (.bl _)⟩) stays_dp
def zipD (ds ds' : List PyData) : List PyData := (ds.zip ds').map fun p => .tuple [p.1, p.2]
theorem wk_zipA {t : Bool} (ha : EvAD K tA σ B [seqD t ds, seqD t ds']) : WkD K (RZ.iZipA K tA) σ B (zipD ds ds') := fun S H w R k => ha.bind w fun vs B1 H1 e1 eB1 w1 rs => by
  have hlen : (zipD ds ds').length = min ds.length ds'.length := by unfold zipD; rw [List.length_map, List.length_zip]
  rw [hlen] at k
  cases rs with
  | cons r1 rs =>
  cases rs with
  | cons r2 rs =>
  cases rs
  cases t with
  | true =>
    cases (show Dq K B1 _ (.tuple ds) from r1) with
    | @tup a xs _ hs hd =>
    cases (show Dq K B1 _ (.tuple ds') from r2) with
    | @tup b ys _ hs2 hd2 =>
    have l1 := DqAll.length hd
    have l2 := DqAll.length hd2
    refine ⟨a, b, xs, ys, rfl, .inr ⟨st_of (w1.ex _ _ hs), st_of (w1.ex _ _ hs2), k _ B1 H1 e1 eB1 w1 (fun i H' e hi => ⟨xs, ys, xs[i]'(by omega), ys[i]'(by omega), st_of (e _ _ hs), st_of (e _ _ hs2), List.getElem?_eq_getElem _, List.getElem?_eq_getElem _⟩) (fun i H' e hi => ⟨xs, ys, st_of (e _ _ hs), st_of (e _ _ hs2), by omega⟩) fun i S' B' H' x H'' eB w' hi y => ?_⟩⟩
    obtain ⟨T, x1, x2, rfl, hT, rfl, f1, f2⟩ := y
    have g1 := f1 _ (st_of ((eB.trans w'.ex) _ _ hs))
    have g2 := f2 _ (st_of ((eB.trans w'.ex) _ _ hs2))
    obtain ⟨d1, p1, q1⟩ := DqAll.get hd g1
    obtain ⟨d2, p2, q2⟩ := DqAll.get hd2 g2
    refine ⟨_, Ex.new hT, w'.newE hT, w'.new hT, .tuple [d1, d2], ?_, .tup upd_same (.cons (Dq.mono (eB.trans (w'.newE hT)) q1) (.cons (Dq.mono (eB.trans (w'.newE hT)) q2) .nil))⟩
    unfold zipD
    rw [List.getElem?_map, List.getElem?_zip_eq_some (z := (d1, d2)).mpr ⟨p1, p2⟩]
    rfl
  | false =>
    cases (show Dq K B1 _ (.list ds) from r1) with
    | @lst a xs _ hs hd =>
    cases (show Dq K B1 _ (.list ds') from r2) with
    | @lst b ys _ hs2 hd2 =>
    have l1 := DqAll.length hd
    have l2 := DqAll.length hd2
    refine ⟨a, b, xs, ys, rfl, .inl ⟨ex_l w1.ex hs, ex_l w1.ex hs2, k _ B1 H1 e1 eB1 w1 (fun i H' e hi => ⟨xs, ys, xs[i]'(by omega), ys[i]'(by omega), ex_l e hs, ex_l e hs2, List.getElem?_eq_getElem _, List.getElem?_eq_getElem _⟩) (fun i H' e hi => ⟨xs, ys, ex_l e hs, ex_l e hs2, by omega⟩) fun i S' B' H' x H'' eB w' hi y => ?_⟩⟩
    obtain ⟨T, x1, x2, rfl, hT, rfl, f1, f2⟩ := y
    have g1 := f1 _ (ex_l (eB.trans w'.ex) hs)
    have g2 := f2 _ (ex_l (eB.trans w'.ex) hs2)
    obtain ⟨d1, p1, q1⟩ := DqAll.get hd g1
    obtain ⟨d2, p2, q2⟩ := DqAll.get hd2 g2
    refine ⟨_, Ex.new hT, w'.newE hT, w'.new hT, .tuple [d1, d2], ?_, .tup upd_same (.cons (Dq.mono (eB.trans (w'.newE hT)) q1) (.cons (Dq.mono (eB.trans (w'.newE hT)) q2) .nil))⟩
    unfold zipD
    rw [List.getElem?_map, List.getElem?_zip_eq_some (z := (d1, d2)).mpr ⟨p1, p2⟩]
    rfl
def rCntB (K : PySem.W.Frag) : V → List V → Hp → VK → Prop := fun x xs H Q => ∃ (p : Addr) (ns : List Bool) (k : Bool), x = .ref p ∧ xs = [.bl k] ∧ SqL K H p (ns.map V.bl) ∧ Q (.int (ns.count k : Nat)) H
theorem ev_cntB {bs : List Bool} {k : Bool} (ha : EvD K ta σ B (.list (bs.map .bool))) (hb : EvD K tb σ B (.bool k)) : EvD K (tBM K "list" (rCntB K) ta (tCons tb tNil)) σ B (.int (bs.count k : Nat)) :=
  evR_of (fun S H w Q q => ha.bind w fun x B1 H1 e1 eB1 w1 rx => by
    cases rx with
    | @lst a xs _ hs hd =>
    have e := DqAll.bools_eq hd
    subst e
    refine ⟨.inl ⟨rfl, _, ex_l w1.ex hs⟩, (hb.mono eB1).bind w1 fun y B2 H2 e2 eB2 w2 ry => ?_⟩
    cases ry
    exact ⟨a, bs, k, rfl, rfl, ex_l (eB2.trans w2.ex) hs, q _ B2 H2 (e1.trans e2) (eB1.trans eB2) w2 (.int _)⟩) stays_dp
def rRng1 : List V → Hp → VK → Prop := fun vs H Q => ∃ j, vs = [V.int j] ∧ ∀ p, H p = none → Q (.ref p) (upd H p (.rng 0 j))
def rListRng : List V → Hp → VK → Prop := fun vs H Q => ∃ (r : Addr) (a b : Int), vs = [V.ref r] ∧ H r = some (.rng a b) ∧ -(2 ^ 61) ≤ a ∧ a < 2 ^ 61 ∧ -(2 ^ 61) ≤ b ∧ b < 2 ^ 61 ∧ (b - a).toNat ≤ 100000 ∧
    ∀ p, H p = none → Q (.ref p) (upd H p (.lst ((List.range (b - a).toNat).map fun (i : Nat) => V.int (a + (i : Int)))))
theorem ev_listrange {j : Int} (h : EvD K ta σ B (.int j)) (hj : -100000 ≤ j ∧ j ≤ 100000) : EvD K (tCB rListRng (tCons (tCB rRng1 (tCons ta tNil)) tNil)) σ B (.list ((rngI 0 j.toNat).map .int)) :=
  evR_of (fun S H w Q q => h.bind w fun x B1 H1 e1 eB1 w1 rx => by
    cases rx
    refine ⟨j, rfl, fun p hp => ⟨p, 0, j, rfl, upd_same, by decide, by decide, by omega, by omega, by omega, fun l hl => ?_⟩⟩
    have w2 := w1.ext (Ex.new (o := .rng 0 j) hp)
    refine q (.ref l) _ _ (e1.trans ((Ex.new hp).trans (Ex.new hl))) (eB1.trans (w2.newE (o := .lst ((List.range (j - 0).toNat).map fun (i : Nat) => V.int (0 + (i : Int)))) hl)) (w2.new hl) (.lst (sq_of upd_same) ?_)
    have e : (List.range (j - 0).toNat).map (fun (i : Nat) => V.int (0 + (i : Int))) = (rngI 0 j.toNat).map V.int := by
      unfold rngI
      rw [List.map_map, Int.sub_zero]
      rfl
    rw [e]
    exact DqAll.ints) stays_dp
theorem sum_take1 {l : List Int} {i : Nat} {a : Int} (h : l[i]? = some a) : (l.take (i + 1)).sum = (l.take i).sum + a := by
  rw [List.take_add_one, h, List.sum_append]
  simp
theorem shaped_ints (ns : List Int) : SeqAt.shaped (.list (ns.map .int)) = true := PySem.W.ke_shaped_ints ns
theorem eqv_refl_ints (ns : List Int) : PyData.eqv (.list (ns.map .int)) (.list (ns.map .int)) = true := SeqAt.eqv_refl _ (SeqAt.canLay_of_shaped (shaped_ints ns))
end
section
variable {K : PySem.W.Frag} {σ : L2.St} {B H : Hp} {S : List Addr} {te ta tb tc : TE}
/-- a < b < c of ints -/
theorem ev_chain {g g' : Int → Int → Bool} {i j k : Int} (ha : EvD K ta σ B (.int i)) (hb : EvD K tb σ B (.int j)) (hc : EvD K tc σ B (.int k)) :
    EvD K (tChain (rI0 fun i j => .bl (g i j)) (rI0 fun i j => .bl (g' i j)) ta tb tc) σ B (.bool (g i j && g' j k)) :=
  evR_of (fun S H w Q q => ha.bind w fun x B1 H1 e1 eB1 w1 rx => (hb.mono eB1).bind w1 fun y B2 H2 e2 eB2 w2 ry => by
    cases rx
    cases ry
    refine ⟨i, j, rfl, rfl, g i j, rfl, ?_⟩
    revert q
    cases hg : g i j with
    | true =>
      intro q
      exact ((hc.mono eB1).mono eB2).bind w2 fun z B3 H3 e3 eB3 w3 rz => (by
        cases rz
        exact ⟨j, k, rfl, rfl, q _ B3 H3 (e1.trans (e2.trans e3)) (eB1.trans (eB2.trans eB3)) w3 (.bl _)⟩)
    | false =>
      intro q
      exact q _ B2 H2 (e1.trans e2) (eB1.trans eB2) w2 (.bl _)) stays_dp
/-- tuples of ints, the lesser one -/
theorem ev_ltT {ns ms : List Int} (ha : EvD K ta σ B (.tuple (ns.map .int))) (hb : EvD K tb σ B (.tuple (ms.map .int))) : EvD K (tOp (rLtT K) ta tb) σ B (.bool (HT.lexLt ns ms)) :=
  ev_op ha hb (fun x y B' H' Q hx hy e q => by
    cases hx with
    | tup h1 h2 =>
    cases hy with
    | tup h3 h4 =>
    have e1 := DqAll.ints_eq h2
    have e2 := DqAll.ints_eq h4
    subst e1 e2
    exact ⟨_, _, ns, ms, rfl, rfl, st_of (e _ _ h1), st_of (e _ _ h3), q _ (.bl _)⟩) stays_dp
end
/-! ### data of bounded depth, for the law's own sameness -/
def okD : Nat → PyData → Bool
  | k + 1, .list xs => decide (xs.length ≤ 40000) && xs.all (okD k)
  | k + 1, .tuple xs => decide (xs.length ≤ 40000) && xs.all (okD k)
  | _, x => atomD x
theorem okD_cases {n : Nat} {x : PyData} (h : okD n x = true) : atomD x = true ∨ ∃ m t xs, n = m + 1 ∧ x = seqD t xs ∧ xs.length ≤ 40000 ∧ ∀ y ∈ xs, okD m y = true := by
  match n, x with
  | 0, .none => exact .inl rfl
  | 0, .bool _ => exact .inl rfl
  | 0, .int _ => exact .inl rfl
  | 0, .str _ => exact .inl rfl
  | 0, .list _ => cases h
  | 0, .tuple _ => cases h
  | 0, .dict _ => cases h
  | _ + 1, .none => exact .inl rfl
  | _ + 1, .bool _ => exact .inl rfl
  | _ + 1, .int _ => exact .inl rfl
  | _ + 1, .str _ => exact .inl rfl
  | k + 1, .list xs =>
    unfold okD at h
    rw [Bool.and_eq_true, decide_eq_true_iff, List.all_eq_true] at h
    exact .inr ⟨k, false, xs, rfl, rfl, h.1, h.2⟩
  | k + 1, .tuple xs =>
    unfold okD at h
    rw [Bool.and_eq_true, decide_eq_true_iff, List.all_eq_true] at h
    exact .inr ⟨k, true, xs, rfl, rfl, h.1, h.2⟩
  | _ + 1, .dict _ => cases h
def fSame (n : Nat) (ds : List PyData) (d : PyData) : Prop := ∃ x, ds = [x, x] ∧ okD n x = true ∧ d = .bool true
theorem kit_seq (t : Bool) (xs : List PyData) : kitB (tyN (seqD t xs)) "list" = some (!t) ∧ kitB (tyN (seqD t xs)) "tuple" = some t := by
  cases t with
  | true => exact (by decide +kernel : kitB "tuple" "list" = some (!true) ∧ kitB "tuple" "tuple" = some true)
  | false => exact (by decide +kernel : kitB "list" "list" = some (!false) ∧ kitB "list" "tuple" = some false)
theorem zip_self {α : Type} : ∀ {xs : List α} {p : α × α}, p ∈ xs.zip xs → p.1 = p.2
  | [], _, h => by cases h
  | x :: r, p, h => by
    rw [List.zip_cons_cons] at h
    rcases List.mem_cons.mp h with rfl | h
    · rfl
    · exact zip_self h
theorem zip_mem {α β : Type} {xs : List α} {ys : List β} {p : α × β} (h : p ∈ xs.zip ys) : p.1 ∈ xs := (List.of_mem_zip h).1
end Pw

/-! ## PwX -/
namespace Pw
open PySem L2 Evl
theorem _root_.L2.Room.units65 {k : Nat} {A : Around} (r : Room k A) : A.units + 65 < cLine := by have := r.un; omega
section
variable {K : PySem.W.Frag} {σ : L2.St} {B H : Hp} {S : List Addr} {b : Addr} {k c : Nat} {te ta tb tl : TE} {tA : TA} {g : TG} {tu : TS} {D : Ends} {ds : List PyData} {d : PyData}
/-- a loop over a list: first the list -/
theorem st_forL (h : tl σ H fun v H1 => tFor (iList K (tC v)) g tu D σ H1) : tFor (iList K tl) g tu D σ H := h
theorem st_forT (h : tl σ H fun v H1 => tFor (iTup K (tC v)) g tu D σ H1) : tFor (iTup K tl) g tu D σ H := h
theorem st_gn {i : Nat} {v : V} {Q : L2.St → Hp → Prop} (h : Q (σ.set i (some v)) H) : gName i v σ H Q := h
theorem st_seq {t u : TS} (h : t { D with nx := u D } σ H) : tSeq t u D σ H := h
/-- own list, one more -/
theorem st_app {i : Nat} {a : Addr} {ys : List V} {R : V → Hp → Prop} (w : Wd S B H) (hi : σ[i]? = some (some (.ref a))) (hA : H a = some (.lst ys)) (hm : a ∈ S) (hl : ys.length ≤ 40000) (he : EvR te σ B R)
    (k : ∀ v B' H', Ex H H' → Ex B B' → Wd S B' (upd H' a (.lst (ys ++ [v]))) → R v B' → D.nx σ (upd H' a (.lst (ys ++ [v])))) : tDrop (tBM K "list" rAppend (tVar i) (tCons te tNil)) D σ H :=
  ⟨_, hi, .inl ⟨rfl, _, sq_of hA⟩, he.bind w fun v B1 H1 e1 eB1 w1 r => ⟨a, ys, v, rfl, rfl, e1 _ _ hA, sz_lt (by omega), k v B1 H1 e1 eB1 (w1.put hm) r⟩⟩
/-- a list at a drawn place -/
theorem ex_ixX {p : Int → Prop} {P : PyData → Prop} (ha : EvD K ta σ B (.list ds)) (hb : EvX S b k tb σ B (IntIn K p)) (hm : ∀ i, p i → ∃ d, atI ds i = some d ∧ P d) : EvX S b k (tOp (rIxL K) ta tb) σ B (fun v B' => ∃ d, P d ∧ Dq K B' v d) :=
  fun H c w hbS hB hl Q q => ha.bind w fun x B1 H1 e1 eB1 w1 hx => (hb.mono eB1).get w1 hbS (hB.ex e1) hl fun i B2 H2 hi x2 eB2 w2 hB2 => by
    obtain ⟨d, hd, hP⟩ := hm i hi
    exact (ev_ixL (ta := tC x) (tb := tC (.int i)) (σ := σ) (ev_c (Dq.mono eB2 hx)) ev_int hd).bind w2 fun v B3 H3 e3 eB3 w3 r => q v H3 ((Xs.of e1).trans (x2.trans (Xs.of e3))) (hB2.ex e3) ⟨d, hP, Dq.mono (ex_mi w3.ex w3.no) r⟩
/-- a list from a drawn place on -/
theorem ex_slL {p : Int → Prop} (ha : EvD K ta σ B (.list ds)) (hb : EvX S b k tb σ B (IntIn K p)) : EvX S b k (tSl (rSlL K) ta (tPart tb) tNoPart) σ B (fun v B' => ∃ i, p i ∧ Dq K B' v (.list (cutA ds (some i) none))) :=
  fun H c w hbS hB hl Q q => ha.bind w fun x B1 H1 e1 eB1 w1 hx => (hb.mono eB1).get w1 hbS (hB.ex e1) hl fun i B2 H2 hi x2 eB2 w2 hB2 => by
    have h3 : tSl (rSlL K) (tC x) (tPart (tC (.int i))) tNoPart σ H2 Q := (ev_slL (ta := tC x) (σ := σ) (tl := tPart (tC (.int i))) (th := tNoPart) (hi := none) (ev_c (Dq.mono eB2 hx)) (ep_some (K := K) ev_int) ep_none).bind w2 (Q := Q) fun v B3 H3 e3 eB3 w3 r => q v H3 ((Xs.of e1).trans (x2.trans (Xs.of e3))) (hB2.ex e3) ⟨i, hi, Dq.mono (ex_mi w3.ex w3.no) r⟩
    obtain ⟨j, ej, h4⟩ := h3
    cases ej
    exact ⟨i, rfl, h4⟩
end
theorem cutA_map {α β : Type} (f : α → β) (xs : List α) (lo hi : Option Int) : cutA (xs.map f) lo hi = (cutA xs lo hi).map f := by
  unfold cutA
  rw [List.length_map, List.map_take, List.map_drop]
theorem cutA_mem {α : Type} {x : α} {xs : List α} {lo hi : Option Int} (h : x ∈ cutA xs lo hi) : x ∈ xs := List.mem_of_mem_drop (List.mem_of_mem_take h)
theorem cutA_len {α : Type} (xs : List α) (lo hi : Option Int) : (cutA xs lo hi).length ≤ xs.length := by
  unfold cutA
  rw [List.length_take, List.length_drop]
  omega
/-- data that can be laid out and is not deep -/
def Shp (n : Nat) (d : PyData) : Prop := d.canLay0 = true ∧ d.depth ≤ n
theorem shp_int {n : Nat} {i : Int} : Shp n (.int i) := ⟨by simp [PyData.canLay0], by simp [PyData.depth]⟩
theorem shp_all {n : Nat} : ∀ {xs : List PyData}, (∀ x ∈ xs, Shp n x) → PyData.canLayAll0 xs = true ∧ PyData.depthAll xs ≤ n
  | [], _ => ⟨by simp [PyData.canLayAll0], by simp [PyData.depthAll]⟩
  | x :: r, h => by
    have h1 := h x List.mem_cons_self
    have h2 := shp_all fun y hy => h y (List.mem_cons_of_mem x hy)
    have h3 := h1.1
    have h4 := h1.2
    have h5 := h2.1
    have h6 := h2.2
    constructor
    · simp [PyData.canLayAll0, h3, h5]
    · simp only [PyData.depthAll]
      omega
theorem shp_list {n : Nat} {xs : List PyData} (h : ∀ x ∈ xs, Shp n x) : Shp (n + 1) (.list xs) := by
  have h1 := shp_all h
  refine ⟨by simp only [PyData.canLay0]; exact h1.1, ?_⟩
  have h2 := h1.2
  simp only [PyData.depth]
  omega
theorem shp_tup {n : Nat} {xs : List PyData} (h : ∀ x ∈ xs, Shp n x) : Shp (n + 1) (.tuple xs) := by
  have h1 := shp_all h
  refine ⟨by simp only [PyData.canLay0]; exact h1.1, ?_⟩
  have h2 := h1.2
  simp only [PyData.depth]
  omega
theorem Shp.shaped {n : Nat} {d : PyData} (h : Shp n d) (hn : n ≤ 64) : SeqAt.shaped d = true := by
  have h1 := h.2
  show (d.canLay0 && decide (d.depth ≤ 64)) = true
  rw [h.1, decide_eq_true (by omega)]
  rfl
theorem shp_pair (k : Int × Int) : Shp 1 (pairD k) := shp_tup fun x hx => by
  simp only [List.mem_cons, List.not_mem_nil, or_false] at hx
  rcases hx with rfl | rfl <;> exact shp_int
theorem shp_pairs (ks : List (Int × Int)) : Shp 2 (.list (ks.map pairD)) := shp_list fun x hx => by
  obtain ⟨k, _, rfl⟩ := List.mem_map.mp hx
  exact shp_pair k
theorem shaped_pair (k : Int × Int) : SeqAt.shaped (pairD k) = true := (shp_pair k).shaped (by decide)
theorem shaped_pairs (ks : List (Int × Int)) : SeqAt.shaped (.list (ks.map pairD)) = true := (shp_pairs ks).shaped (by decide)
theorem eqv_refl' {x : PyData} (h : SeqAt.shaped x = true) : PyData.eqv x x = true := SeqAt.eqv_refl _ (SeqAt.canLay_of_shaped h)
theorem eqv_pair (a b : Int × Int) : PyData.eqv (pairD a) (pairD b) = decide (a = b) := by
  obtain ⟨a1, a2⟩ := a
  obtain ⟨b1, b2⟩ := b
  simp only [pairD, PyData.eqv, PyData.eqvAll]
  by_cases h1 : a1 = b1 <;> by_cases h2 : a2 = b2 <;> simp [h1, h2]
theorem any_eqv (ks : List (Int × Int)) (k : Int × Int) : ((ks.map pairD).any fun z => PyData.eqv z (pairD k)) = decide (k ∈ ks) := by
  rw [List.any_map, Bool.eq_iff_iff, List.any_eq_true, decide_eq_true_iff]
  constructor
  · rintro ⟨x, hx, e⟩
    rw [Function.comp_apply, eqv_pair, decide_eq_true_iff] at e
    exact e ▸ hx
  · intro h
    exact ⟨k, h, by rw [Function.comp_apply, eqv_pair]; exact decide_eq_true rfl⟩
theorem okD_web {n : Int} {ts : List Tie} (h : ts.length ≤ 40000) : okD 4 (webD n ts) = true := by
  show (decide (2 ≤ 40000) && [PyData.int n, .tuple (ts.map tieD)].all (okD 3)) = true
  have h2 : okD 3 (.tuple (ts.map tieD)) = true := by
    show (decide ((ts.map tieD).length ≤ 40000) && (ts.map tieD).all (okD 2)) = true
    rw [List.length_map, decide_eq_true h, List.all_map, Bool.true_and, List.all_eq_true]
    intro t _
    rfl
  simp only [List.all_cons, List.all_nil, h2]
  rfl
end Pw

/-! ## K43Row -/
namespace Pw
open PySem L2 Evl
def topS (i : Nat) : Stmt := PySem.Challenge.pw_partedweb_k43_widths_of_orders.main.body.getD i (.Pass ⟨0, 0, 0, 0⟩)
abbrev s_beside : Stmt := topS 1
abbrev ps_beside : List Str := ["web"]
abbrev nm_beside : List Str := ["web", "found", "a", "b", "weight", "place"]
abbrev s_open_behind : Stmt := topS 3
abbrev ps_open_behind : List Str := ["web", "order"]
abbrev nm_open_behind : List Str := ["web", "order", "near", "turns", "found", "turn", "some", "place", "other"]
abbrev s_width_of : Stmt := topS 4
abbrev ps_width_of : List Str := ["web", "order"]
abbrev nm_width_of : List Str := ["web", "order", "some"]
abbrev s_law_cell_at : Stmt := topS 6
abbrev ps_law_cell_at : List Str := ["_law_script", "_law_k"]
abbrev nm_law_cell_at : List Str := ["_law_script", "_law_k"]
abbrev s_law_box : Stmt := topS 7
abbrev ps_law_box : List Str := ["_law_script", "_law_k"]
abbrev nm_law_box : List Str := ["_law_script", "_law_k", "_law_cell"]
abbrev s_law_take : Stmt := topS 8
abbrev ps_law_take : List Str := ["_law_box_here", "_law_many_here"]
abbrev nm_law_take : List Str := ["_law_box_here", "_law_many_here", "_law_found", "_law_once", "_law_twice"]
abbrev s_law_many : Stmt := topS 9
abbrev ps_law_many : List Str := ["_law_box_here", "_law_least", "_law_few", "_law_most"]
abbrev nm_law_many : List Str := ["_law_box_here", "_law_least", "_law_few", "_law_most"]
abbrev s_law_weight : Stmt := topS 10
abbrev ps_law_weight : List Str := ["_law_box_here", "_law_heavy"]
abbrev nm_law_weight : List Str := ["_law_box_here", "_law_heavy"]
abbrev s_law_web : Stmt := topS 11
abbrev ps_law_web : List Str := ["_law_box_here", "_law_many_here"]
abbrev nm_law_web : List Str := ["_law_box_here", "_law_many_here", "_law_heavy", "_law_ties", "_law_place", "_law_turn", "_law_one", "_law_other", "_law_pair"]
abbrev s_law_tree : Stmt := topS 12
abbrev ps_law_tree : List Str := ["_law_box_here", "_law_many_here"]
abbrev nm_law_tree : List Str := ["_law_box_here", "_law_many_here", "_law_heavy", "_law_way", "_law_names", "_law_place", "_law_ties", "_law_one", "_law_other"]
abbrev s_law_order : Stmt := topS 13
abbrev ps_law_order : List Str := ["_law_box_here", "_law_web_here"]
abbrev nm_law_order : List Str := ["_law_box_here", "_law_web_here", "_law_some", "_law_way", "_law_turn"]
abbrev s_law_widths : Stmt := topS 14
abbrev ps_law_widths : List Str := ["_law_web_here", "_law_order_here"]
abbrev nm_law_widths : List Str := ["_law_web_here", "_law_order_here", "_law_found", "_law_turn", "_law_later", "_law_ends", "_law_a", "_law_b", "_law_weight_here", "_law_place"]
abbrev s_law_ring : Stmt := topS 15
abbrev ps_law_ring : List Str := ["_law_box_here", "_law_many_here"]
abbrev nm_law_ring : List Str := ["_law_box_here", "_law_many_here", "_law_ties", "_law_place"]
abbrev s_law_right : Stmt := topS 16
abbrev ps_law_right : List Str := ["_law_box_here"]
abbrev nm_law_right : List Str := ["_law_box_here", "_law_many_here", "_law_web_here", "_law_turn", "_law_order_here", "_law_kept", "_law_due", "_law_found", "_law_some", "_law_line", "_law_place"]
abbrev s_law : Stmt := topS 17
abbrev ps_law : List Str := ["_law_script"]
abbrev nm_law : List Str := ["_law_script", "_law_k"]
/-- the built-ins that the module does not bind -/
structure Txt (mg : Str → Option Value) : Prop where
  m_len : mg "len" = none
  m_abs : mg "abs" = none
  m_int : mg "int" = none
  m_dict : mg "dict" = none
  m_sum : mg "sum" = none
  m_range : mg "range" = none
  m_min : mg "min" = none
  m_max : mg "max" = none
  m_tuple : mg "tuple" = none
  m_sorted : mg "sorted" = none
  m_isinstance : mg "isinstance" = none
  m_list : mg "list" = none
  m_str : mg "str" = none
  m_bool : mg "bool" = none
  m_all : mg "all" = none
  m_any : mg "any" = none
  m_zip : mg "zip" = none
  m_enumerate : mg "enumerate" = none
  m_reversed : mg "reversed" = none
  m_set : mg "set" = none
/-- the defs of the text -/
structure Defs (K : PySem.W.Frag) (mg : Str → Option Value) : Prop where
  d_beside : ∃ f fd, Dfn K mg "beside" s_beside ps_beside f fd
  d_open_behind : ∃ f fd, Dfn K mg "open_behind" s_open_behind ps_open_behind f fd
  d_width_of : ∃ f fd, Dfn K mg "width_of" s_width_of ps_width_of f fd
  d_law_cell_at : ∃ f fd, Dfn K mg "_law_cell_at" s_law_cell_at ps_law_cell_at f fd
  d_law_box : ∃ f fd, Dfn K mg "_law_box" s_law_box ps_law_box f fd
  d_law_take : ∃ f fd, Dfn K mg "_law_take" s_law_take ps_law_take f fd
  d_law_many : ∃ f fd, Dfn K mg "_law_many" s_law_many ps_law_many f fd
  d_law_weight : ∃ f fd, Dfn K mg "_law_weight" s_law_weight ps_law_weight f fd
  d_law_web : ∃ f fd, Dfn K mg "_law_web" s_law_web ps_law_web f fd
  d_law_tree : ∃ f fd, Dfn K mg "_law_tree" s_law_tree ps_law_tree f fd
  d_law_order : ∃ f fd, Dfn K mg "_law_order" s_law_order ps_law_order f fd
  d_law_widths : ∃ f fd, Dfn K mg "_law_widths" s_law_widths ps_law_widths f fd
  d_law_ring : ∃ f fd, Dfn K mg "_law_ring" s_law_ring ps_law_ring f fd
  d_law_right : ∃ f fd, Dfn K mg "_law_right" s_law_right ps_law_right f fd
end Pw

/-! ## K43_law_cell_at -/
namespace Pw
open PySem L2 Evl
section
variable {P : Program} {w : World} {K : PySem.W.Frag} {mg : Str → Option Value} {base : Heap}
theorem sc_law_cell_at : FnScope nm_law_cell_at ps_law_cell_at (defScope s_law_cell_at) := ⟨rfl, rfl, rfl, by decide +kernel, rfl, by decide +kernel, by decide +kernel⟩
theorem ok_law_cell_at {f : Addr} {fd : FuncData} (T : Txt mg) (Ds : Defs K mg) (D : Dfn K mg "_law_cell_at" s_law_cell_at ps_law_cell_at f fd) : FnOk P w K mg base CX0 1 f fd ps_law_cell_at (spCellAt K) := by
  refine D.F.ok sc_law_cell_at (fun vs H Q E h => ?_) (fun cdv A outer s H vs Q E hr h => ?_)
  · obtain ⟨l, ns, k, rfl, _⟩ := h
    rfl
  · obtain ⟨l, ns, k, rfl, hs, q⟩ := h
    refine ⟨_, (pss_cons (ps_if (pt_cmpR op_lt (pv 1) (pe_callB call_len_seq (by rfl) T.m_len (by decide +kernel) (pa_cons (pv 0) pa_nil)) (nomark _))
        (pss_one (ps_ret (pe_ix ix_seq (pv 0) (pv 1) (fun _ _ => rfl))))
        pss_nil)
      (pss_one (ps_ret pe_int))), ?_⟩
    refine ⟨_, rfl, _, rfl, l, _, rfl, .inl hs, _, _, rfl, rfl, _, rfl, ite2 (fun e => ?_) (fun e => ?_)⟩
    · have hk : k < ns.length := by
        have e1 := of_decide_eq_true e
        rw [List.length_map] at e1
        omega
      have hg : (ns.map V.int)[k]? = some (.int ns[k]) := by
        rw [List.getElem?_map, List.getElem?_eq_getElem hk]
        rfl
      exact ⟨_, rfl, _, rfl, .inl ⟨l, _, _, _, rfl, rfl, hs, atI_nat hg, q _⟩⟩
    · exact q _
end
end Pw

/-! ## K43_law_box -/
namespace Pw
open PySem L2 Evl
section
variable {P : Program} {w : World} {K : PySem.W.Frag} {mg : Str → Option Value} {base : Heap}
theorem sc_law_box : FnScope nm_law_box ps_law_box (defScope s_law_box) := ⟨rfl, rfl, rfl, by decide +kernel, rfl, by decide +kernel, by decide +kernel⟩
theorem ok_law_box {f : Addr} {fd : FuncData} (T : Txt mg) (Ds : Defs K mg) (D : Dfn K mg "_law_box" s_law_box ps_law_box f fd) : FnOk P w K mg base CX0 2 f fd ps_law_box (spBox K) := by
  obtain ⟨f_law_cell_at, fd_law_cell_at, D_law_cell_at⟩ := Ds.d_law_cell_at
  have G_law_cell_at := ok_law_cell_at (P := P) (w := w) (base := base) T Ds D_law_cell_at
  refine D.F.ok sc_law_box (fun vs H Q E h => ?_) (fun cdv A outer s H vs Q E hr h => ?_)
  · obtain ⟨l, ns, k, rfl, _⟩ := h
    rfl
  · obtain ⟨l, ns, k, rfl, hs, hk, q⟩ := h
    have hr_law_cell_at := hr.mono (show 1 ≤ 1 by decide)
    refine ⟨_, (pss_cons (ps_set (i := 2) sc_law_box.nd rfl (Or.inl rfl) (pe_call G_law_cell_at hr_law_cell_at (by rfl) D_law_cell_at.g D_law_cell_at.F.kp D_law_cell_at.b .nil pass0 (pa_cons (pv 0) (pa_cons (pv 1) pa_nil))))
      (pss_one (ps_ret (pe_lst (pa_cons (pe_op op_mul (pe_callB call_abs (by rfl) T.m_abs (by decide +kernel) (pa_cons (pv 2) pa_nil)) (pe_callTy call_int1 (by rfl) T.m_int (by decide +kernel) (pa_cons (pe_cmpR op_ge (pe_callB call_abs (by rfl) T.m_abs (by decide +kernel) (pa_cons (pv 2) pa_nil)) (pe_op op_pow pe_int pe_int) (nomark _)) pa_nil))) (pa_cons (pe_op op_add (pe_op op_add (pe_op op_mod (pv 2) pe_int) (pe_op op_mul pe_int (pv 1))) pe_int) (pa_cons pe_int pa_nil))))))), ?_⟩
    refine ⟨_, rfl, _, rfl, l, ns, k, rfl, hs, fun z => ?_⟩
    refine ⟨_, rfl, _, rfl, _, rfl, _, rfl, _, _, rfl, rfl, ⟨by decide, by decide, by decide⟩, _, _, rfl, rfl, .inr ⟨_, rfl, _, _, rfl, rfl, .inr ?_, _, rfl, _, _, rfl, rfl, (by show (0 : Int) < _; decide), _, rfl, _, _, rfl, rfl, .inl ⟨by decide, by decide⟩, _, _, rfl, rfl, _, _, rfl, rfl, by show 3 ≤ sizeLine; decide, fun b hb => ?_⟩⟩
    · exact b01 _
    · refine q b _ hb (Ex.new hb) ⟨_, _, _, upd_same, ?_, ?_, ?_, by decide, by decide⟩
      · refine Int.mul_nonneg (by split <;> omega) (b0 _)
      · have := Int.emod_nonneg z (b := 2305843009213693951) (by decide)
        omega
      · have := Int.emod_lt_of_pos z (b := 2305843009213693951) (by decide)
        omega
end
end Pw

/-! ## K43_law_take -/
namespace Pw
open PySem L2 Evl
section
variable {P : Program} {w : World} {K : PySem.W.Frag} {mg : Str → Option Value} {base : Heap}
theorem sc_law_take : FnScope nm_law_take ps_law_take (defScope s_law_take) := ⟨rfl, rfl, rfl, by decide +kernel, rfl, by decide +kernel, by decide +kernel⟩
theorem ok_law_take {f : Addr} {fd : FuncData} (T : Txt mg) (Ds : Defs K mg) (D : Dfn K mg "_law_take" s_law_take ps_law_take f fd) : FnOk P w K mg base CX0 1 f fd ps_law_take spTake := by
  refine D.F.ok sc_law_take (fun vs H Q E h => ?_) (fun cdv A outer s H vs Q E hr h => ?_)
  · obtain ⟨b, m, c, rfl, _⟩ := h
    rfl
  · obtain ⟨b, m, c, rfl, ⟨x, y, z, hb, hx, hy, hy2, hz, hzc⟩, hc, hm, hm2, q⟩ := h
    refine ⟨_, (pss_cons (ps_if (pt_cmpR op_gt (pe_ix ix_seq (pv 0) pe_int (fun _ _ => rfl)) pe_int (nomark _))
        (pss_cons (ps_set (i := 2) sc_law_take.nd rfl (Or.inl rfl) (pe_op op_mod (pe_ix ix_seq (pv 0) pe_int (fun _ _ => rfl)) (pv 1)))
        (pss_cons (ps_asg (pe_op op_fdivW (pe_ix ix_seq (pv 0) pe_int (fun _ _ => rfl)) (pv 1)) (pg_sub (pv 0) pe_int set_list))
        (pss_one (ps_ret (pv 2)))))
        pss_nil)
      (pss_cons (ps_asg (pe_op op_add (pe_ix ix_seq (pv 0) pe_int (fun _ _ => rfl)) pe_int) (pg_sub (pv 0) pe_int set_list))
      (pss_cons (ps_set (i := 3) sc_law_take.nd rfl (Or.inl rfl) (pe_op op_mod (pe_op op_mul (pe_op op_add (pe_ix ix_seq (pv 0) pe_int (fun _ _ => rfl)) (pe_op op_mul pe_int (pe_ix ix_seq (pv 0) pe_int (fun _ _ => rfl)))) (pe_op op_add pe_int (pe_ix ix_seq (pv 0) pe_int (fun _ _ => rfl)))) pe_int))
      (pss_cons (ps_set (i := 4) sc_law_take.nd rfl (Or.inl rfl) (pe_op op_mod (pe_op op_mul (pe_op op_add (pv 3) (pe_ix ix_seq (pv 0) pe_int (fun _ _ => rfl))) (pe_op op_add (pe_op op_mod (pv 3) pe_int) pe_int)) pe_int))
      (pss_one (ps_ret (pe_op op_mod (pe_op op_fdiv (pe_op op_mod (pe_op op_add (pe_op op_mul (pv 4) pe_int) (pv 3)) pe_int) pe_int) (pv 1)))))))), ?_⟩
    have a0 : atI [V.int x, V.int y, V.int z] 0 = some (.int x) := rfl
    refine ⟨_, rfl, .inl ⟨b, _, _, _, rfl, rfl, sq_of hb, rfl, _, _, rfl, rfl, _, rfl, ite2 (fun e => ?_) (fun e => ?_)⟩⟩
    · have hx0 : 0 < x := of_decide_eq_true e
      refine ⟨_, rfl, .inl ⟨b, _, _, _, rfl, rfl, sq_of hb, rfl, _, rfl, _, _, rfl, rfl, by show 0 < m; omega, ?_⟩⟩
      refine ⟨_, rfl, .inl ⟨b, _, _, _, rfl, rfl, sq_of hb, rfl, _, rfl, _, _, rfl, rfl, wide_div (b := 100) (by omega) (by omega) (by decide) (by decide), ?_⟩⟩
      refine ⟨_, rfl, b, _, _, 0, rfl, rfl, hb, rfl, ?_⟩
      refine ⟨_, rfl, q _ _ (Int.emod_nonneg _ (by omega)) (Int.emod_lt_of_pos _ (by omega)) ⟨Xs.refl.put (List.mem_singleton.mpr rfl), _, _, _, upd_same, ?_, hy, hy2, hz, by omega⟩⟩
      exact Int.ediv_nonneg hx (by omega)
    · refine ⟨_, rfl, .inl ⟨b, _, _, _, rfl, rfl, sq_of hb, rfl, _, _, rfl, rfl, _, rfl, b, _, _, 2, rfl, rfl, hb, rfl, ?_⟩⟩
      have hb1 : (upd H b (.lst [.int x, .int y, .int (z + 1)])) b = some (.lst [.int x, .int y, .int (z + 1)]) := upd_same
      refine ⟨_, rfl, .inl ⟨b, _, _, _, rfl, rfl, sq_of hb1, rfl, _, rfl, .inl ⟨b, _, _, _, rfl, rfl, sq_of hb1, rfl, _, _, rfl, rfl, .inl ⟨by decide, by decide⟩, _, _, rfl, rfl, ?_⟩⟩⟩
      refine ⟨_, rfl, .inl ⟨b, _, _, _, rfl, rfl, sq_of hb1, rfl, _, _, rfl, rfl, _, _, rfl, rfl, .inr ⟨by omega, by omega⟩, _, _, rfl, rfl, (by show (0 : Int) < _; decide), ?_⟩⟩
      have h3 := Int.emod_nonneg ((y + 48271 * (z + 1)) * (39373 + (z + 1))) (b := 2147483647) (by decide)
      have h4 := Int.emod_lt_of_pos ((y + 48271 * (z + 1)) * (39373 + (z + 1))) (b := 2147483647) (by decide)
      generalize (y + 48271 * (z + 1)) * (39373 + (z + 1)) % 2147483647 = once at h3 h4 ⊢
      have h5 := Int.emod_nonneg once (b := 40009) (by decide)
      have h6 := Int.emod_lt_of_pos once (b := 40009) (by decide)
      refine ⟨_, rfl, _, rfl, .inl ⟨b, _, _, _, rfl, rfl, sq_of hb1, rfl, _, _, rfl, rfl, _, rfl, _, _, rfl, rfl, (by show (0 : Int) < _; decide), _, _, rfl, rfl, _, _, rfl, rfl, .inr ⟨by omega, by omega⟩, _, _, rfl, rfl, (by show (0 : Int) < _; decide), ?_⟩⟩
      have h7 := Int.emod_nonneg ((once + (z + 1)) * (once % 40009 + 7)) (b := 2147483629) (by decide)
      have h8 := Int.emod_lt_of_pos ((once + (z + 1)) * (once % 40009 + 7)) (b := 2147483629) (by decide)
      generalize (once + (z + 1)) * (once % 40009 + 7) % 2147483629 = twice at h7 h8 ⊢
      refine ⟨_, rfl, _, _, rfl, rfl, .inr ⟨by decide, by decide⟩, _, rfl, _, _, rfl, rfl, _, _, rfl, rfl, (by show (0 : Int) < _; decide), _, _, rfl, rfl, ⟨by decide, by decide⟩, _, rfl, _, _, rfl, rfl, by show 0 < m; omega, ?_⟩
      exact q _ _ (Int.emod_nonneg _ (by omega)) (Int.emod_lt_of_pos _ (by omega)) ⟨Xs.refl.put (List.mem_singleton.mpr rfl), _, _, _, upd_same, hx, hy, hy2, by omega, by omega⟩
end
end Pw

/-! ## K43_law_many -/
namespace Pw
open PySem L2 Evl
section
variable {P : Program} {w : World} {K : PySem.W.Frag} {mg : Str → Option Value} {base : Heap}
theorem sc_law_many : FnScope nm_law_many ps_law_many (defScope s_law_many) := ⟨rfl, rfl, rfl, by decide +kernel, rfl, by decide +kernel, by decide +kernel⟩
theorem ok_law_many {f : Addr} {fd : FuncData} (T : Txt mg) (Ds : Defs K mg) (D : Dfn K mg "_law_many" s_law_many ps_law_many f fd) : FnOk P w K mg base CX0 2 f fd ps_law_many spMany := by
  obtain ⟨f_law_take, fd_law_take, D_law_take⟩ := Ds.d_law_take
  have G_law_take := ok_law_take (P := P) (w := w) (base := base) T Ds D_law_take
  refine D.F.ok sc_law_many (fun vs H Q E h => ?_) (fun cdv A outer s H vs Q E hr h => ?_)
  · obtain ⟨b, l, f, m, c, rfl, _⟩ := h
    rfl
  · obtain ⟨b, l, f, m, c, rfl, hb, hc, hlf, hm, hm2, hfl, q⟩ := h
    have hr_law_take := hr.mono (show 1 ≤ 1 by decide)
    refine ⟨_, (pss_cons (ps_if (pt_cmpR op_eq (pe_call G_law_take hr_law_take (by rfl) D_law_take.g D_law_take.F.kp D_law_take.b .nil pass0 (pa_cons (pv 0) (pa_cons pe_int pa_nil))) pe_int (nomark _))
        (pss_one (ps_ret (pe_op op_add pe_int (pe_call G_law_take hr_law_take (by rfl) D_law_take.g D_law_take.F.kp D_law_take.b .nil pass0 (pa_cons (pv 0) (pa_cons (pe_op op_sub (pv 3) pe_int) pa_nil))))))
        pss_nil)
      (pss_one (ps_ret (pe_op op_add (pv 1) (pe_call G_law_take hr_law_take (by rfl) D_law_take.g D_law_take.F.kp D_law_take.b .nil pass0 (pa_cons (pv 0) (pa_cons (pe_op op_add (pe_op op_sub (pv 2) (pv 1)) pe_int) pa_nil))))))), ?_⟩
    refine ⟨_, rfl, b, 8, c, rfl, hb, by omega, by decide, by decide, fun v H1 h1 h2 hb1 => ⟨rfl, _, rfl, ite2 (fun _ => ?_) (fun _ => ?_)⟩⟩
    · refine ⟨_, rfl, _, rfl, _, _, rfl, rfl, b, _, c + 1, rfl, hb1.at_, by omega, by omega, by omega, fun v H2 h1 h2 hb2 => ⟨_, _, rfl, rfl, q _ _ (.inr ⟨by omega, by omega⟩) (hb1.trans hb2)⟩⟩
    · refine ⟨_, rfl, _, rfl, _, rfl, _, rfl, _, _, rfl, rfl, _, _, rfl, rfl, b, _, c + 1, rfl, hb1.at_, by omega, by omega, by omega, fun v H2 h1 h2 hb2 => ⟨_, _, rfl, rfl, q _ _ (.inl ⟨by omega, by omega⟩) (hb1.trans hb2)⟩⟩
end
end Pw

/-! ## K43_law_weight -/
namespace Pw
open PySem L2 Evl
section
variable {P : Program} {w : World} {K : PySem.W.Frag} {mg : Str → Option Value} {base : Heap}
theorem sc_law_weight : FnScope nm_law_weight ps_law_weight (defScope s_law_weight) := ⟨rfl, rfl, rfl, by decide +kernel, rfl, by decide +kernel, by decide +kernel⟩
theorem ok_law_weight {f : Addr} {fd : FuncData} (T : Txt mg) (Ds : Defs K mg) (D : Dfn K mg "_law_weight" s_law_weight ps_law_weight f fd) : FnOk P w K mg base CX0 2 f fd ps_law_weight spWeight := by
  obtain ⟨f_law_take, fd_law_take, D_law_take⟩ := Ds.d_law_take
  have G_law_take := ok_law_take (P := P) (w := w) (base := base) T Ds D_law_take
  refine D.F.ok sc_law_weight (fun vs H Q E h => ?_) (fun cdv A outer s H vs Q E hr h => ?_)
  · obtain ⟨b, h, c, rfl, _⟩ := h
    rfl
  · obtain ⟨b, h, c, rfl, hb, hc, h0, h4, q⟩ := h
    have hr_law_take := hr.mono (show 1 ≤ 1 by decide)
    refine ⟨_, (pss_one (ps_ret (pe_op op_add pe_int (pe_call G_law_take hr_law_take (by rfl) D_law_take.g D_law_take.F.kp D_law_take.b .nil pass0 (pa_cons (pv 0) (pa_cons (pe_ix ix_list (pe_lst (pa_cons pe_int (pa_cons pe_int (pa_cons pe_int (pa_cons (pe_ix ix_list (pe_lst (pa_cons pe_int (pa_cons pe_int (pa_cons (pe_op op_pow pe_int pe_int) pa_nil)))) (pe_call G_law_take hr_law_take (by rfl) D_law_take.g D_law_take.F.kp D_law_take.b .nil pass0 (pa_cons (pv 0) (pa_cons pe_int pa_nil))) (fun _ _ => rfl)) pa_nil))))) (pv 1) (fun _ _ => rfl)) pa_nil)))))), ?_⟩
    refine ⟨_, rfl, _, _, rfl, rfl, ⟨by decide, by decide, by decide⟩, (by show 3 ≤ sizeLine; decide), fun p hp => ?_⟩
    have np : b ≠ p := hb.ne hp
    refine ⟨_, rfl, b, 3, c, rfl, hb.upd np, by omega, by decide, by decide, fun v H1 h1 h2 hb1 => ?_⟩
    have ep : H1 p = some (.lst [.int 10, .int 100, .int (10 ^ 9)]) := hb1.at np.symm upd_same
    obtain ⟨r, hr1, hr2, hr3⟩ : ∃ r : Int, atI [V.int 10, V.int 100, V.int (10 ^ 9)] v = some (.int r) ∧ 10 ≤ r ∧ r ≤ 1000000000 := by
      have : v = 0 ∨ v = 1 ∨ v = 2 := by omega
      rcases this with rfl | rfl | rfl
      · exact ⟨10, rfl, by decide, by decide⟩
      · exact ⟨100, rfl, by decide, by decide⟩
      · exact ⟨10 ^ 9, rfl, by decide, by decide⟩
    refine ⟨p, _, _, _, rfl, rfl, sq_of ep, hr1, (by show 4 ≤ sizeLine; decide), fun p2 hp2 => ?_⟩
    have np2 : b ≠ p2 := hb1.at_.ne hp2
    obtain ⟨t, ht1, ht2, ht3⟩ : ∃ t : Int, atI [V.int 1, V.int 3, V.int 9, V.int r] h = some (.int t) ∧ 1 ≤ t ∧ t ≤ 1000000000 := by
      have : h = 0 ∨ h = 1 ∨ h = 2 ∨ h = 3 := by omega
      rcases this with rfl | rfl | rfl | rfl
      · exact ⟨1, rfl, by decide, by decide⟩
      · exact ⟨3, rfl, by decide, by decide⟩
      · exact ⟨9, rfl, by decide, by decide⟩
      · exact ⟨r, rfl, by omega, by omega⟩
    refine ⟨_, rfl, p2, _, _, _, rfl, rfl, sq_of upd_same, ht1, b, t, c + 1, rfl, hb1.at_.upd np2, by omega, by omega, by omega, fun u H2 h3 h4 hb2 => ⟨_, _, rfl, rfl, q _ _ (by omega) (by omega) ?_⟩⟩
    exact (Bx.pre (Ex.new hp) hb1).trans (Bx.pre (Ex.new hp2) hb2)
end
end Pw

/-! ## K43_law_web -/
namespace Pw
open PySem L2 Evl
def spWebL (K : PySem.W.Frag) : Sp := fun vs H Q _ => ∃ (S : List Addr) (b : Addr) (n : Int) (c : Nat), vs = [.ref b, .int n] ∧ b ∈ S ∧ (∀ s ∈ S, ∃ o, H s = some o) ∧ BoxAt H b c ∧ c + 1000 < 2 ^ 40 ∧ 1 ≤ n ∧ n ≤ 30 ∧
  ∀ v H' ts, WebOk n ts → (∀ t ∈ ts, t.2.2 ≤ 1000000000) → Dq K (mi H' S) v (webD n ts) → Bx b (c + 1000) H H' → Q v H'
def LightK (kvs : List (List Key × V)) : Prop := ∀ p ∈ kvs, ∀ w : Int, p.2 = .int w → w ≤ 1000000000
theorem LightK.put {kvs : List (List Key × V)} {k : List Key} {w : Int} (h : LightK kvs) (hw : w ≤ 1000000000) : LightK (putK kvs k (.int w)) := fun p hp x hx => by
  rcases putK_mem hp with hp | rfl
  · exact h p hp x hx
  · cases hx
    exact hw
theorem valV_in {κ : Type} [DecidableEq κ] : ∀ {kvs : List (κ × V)} {k : κ} {v : V}, valV kvs k = some v → ∃ p ∈ kvs, p.2 = v
  | [], _, _, h => by simp [valV] at h
  | p :: r, k, v, h => by
    by_cases e : p.1 = k
    · rw [valV_pos e] at h
      exact ⟨p, List.mem_cons_self, Option.some.inj h⟩
    · rw [valV_neg e] at h
      obtain ⟨q, hq, e2⟩ := valV_in h
      exact ⟨q, List.mem_cons_of_mem _ hq, e2⟩
section
variable {P : Program} {w : World} {K : PySem.W.Frag} {mg : Str → Option Value} {base : Heap}
theorem sc_law_web : FnScope nm_law_web ps_law_web (defScope s_law_web) := ⟨rfl, rfl, rfl, by decide +kernel, rfl, by decide +kernel, by decide +kernel⟩
theorem okL_law_web {f : Addr} {fd : FuncData} (T : Txt mg) (Ds : Defs K mg) (D : Dfn K mg "_law_web" s_law_web ps_law_web f fd) : FnOk P w K mg base CX0 3 f fd ps_law_web (spWebL K) := by
  obtain ⟨f_law_take, fd_law_take, D_law_take⟩ := Ds.d_law_take
  have G_law_take := ok_law_take (P := P) (w := w) (base := base) T Ds D_law_take
  obtain ⟨f_law_weight, fd_law_weight, D_law_weight⟩ := Ds.d_law_weight
  have G_law_weight := ok_law_weight (P := P) (w := w) (base := base) T Ds D_law_weight
  refine D.F.ok sc_law_web (fun vs H Q E h => ?_) (fun cdv A outer s H vs Q E hr h => ?_)
  · obtain ⟨S, b, n, c, rfl, _⟩ := h
    rfl
  · obtain ⟨S, b, n, c, rfl, hbS, hSd, hb, hc, hn, hn2, q⟩ := h
    have hr_law_take := hr.mono (show 1 ≤ 2 by decide)
    have hr_law_weight := hr.mono (show 2 ≤ 2 by decide)
    have hu := hu_of hr
    refine ⟨_, (pss_cons (ps_set (i := 2) sc_law_web.nd rfl (Or.inl rfl) (pe_call G_law_take hr_law_take (by rfl) D_law_take.g D_law_take.F.kp D_law_take.b .nil pass0 (pa_cons (pv 0) (pa_cons pe_int pa_nil))))
      (pss_cons (ps_set (i := 3) sc_law_web.nd rfl (Or.inr rfl) pe_dnewT)
      (pss_cons (ps_for PassesOwn.never rfl (pi_range2 (by rfl) T.m_range (pa_cons pe_int (pa_cons (pv 1) pa_nil))) (pg_name (i := 4) sc_law_web.nd rfl (Or.inl rfl))
        (pss_one (ps_if (pt_cmpR op_gt (pe_call G_law_take hr_law_take (by rfl) D_law_take.g D_law_take.F.kp D_law_take.b .nil pass0 (pa_cons (pv 0) (pa_cons pe_int pa_nil))) pe_int (nomark _))
          (pss_one (ps_dput hu (pv 3) (pe_tup (pa_cons (pe_call G_law_take hr_law_take (by rfl) D_law_take.g D_law_take.F.kp D_law_take.b .nil pass0 (pa_cons (pv 0) (pa_cons (pv 4) pa_nil))) (pa_cons (pv 4) pa_nil))) (pe_call G_law_weight hr_law_weight (by rfl) D_law_weight.g D_law_weight.F.kp D_law_weight.b .nil pass0 (pa_cons (pv 0) (pa_cons (pv 2) pa_nil))) rfl))
          pss_nil)))
      (pss_cons (ps_for PassesOwn.never rfl (pi_range1 (by rfl) T.m_range (pa_cons (pe_callB (call_min2 rfl) (by rfl) T.m_min (by decide +kernel) (pa_cons (pe_call G_law_take hr_law_take (by rfl) D_law_take.g D_law_take.F.kp D_law_take.b .nil pass0 (pa_cons (pv 0) (pa_cons (pe_op op_add (pe_op op_mul pe_int (pv 1)) pe_int) pa_nil))) (pa_cons (pe_op op_sub pe_int (pv 1)) pa_nil))) pa_nil)) (pg_name (i := 5) sc_law_web.nd rfl (Or.inl rfl))
        (pss_cons (ps_par (i := 6) (j := 7) (by rfl) sc_law_web.nd rfl rfl (by decide) rfl rfl (pa_cons (pe_call G_law_take hr_law_take (by rfl) D_law_take.g D_law_take.F.kp D_law_take.b .nil pass0 (pa_cons (pv 0) (pa_cons (pv 1) pa_nil))) (pa_cons (pe_call G_law_take hr_law_take (by rfl) D_law_take.g D_law_take.F.kp D_law_take.b .nil pass0 (pa_cons (pv 0) (pa_cons (pv 1) pa_nil))) pa_nil)) (by rfl))
        (pss_one (ps_if (pt_cmpR op_ne (pv 6) (pv 7) (nomark _))
          (pss_one (ps_dput hu (pv 3) (pe_tup (pa_cons (pe_callB (call_min2 rfl) (by rfl) T.m_min (by decide +kernel) (pa_cons (pv 6) (pa_cons (pv 7) pa_nil))) (pa_cons (pe_callB (call_max2 rfl) (by rfl) T.m_max (by decide +kernel) (pa_cons (pv 6) (pa_cons (pv 7) pa_nil))) pa_nil))) (pe_call G_law_weight hr_law_weight (by rfl) D_law_weight.g D_law_weight.F.kp D_law_weight.b .nil pass0 (pa_cons (pv 0) (pa_cons (pv 2) pa_nil))) rfl))
          pss_nil))))
      (pss_one (ps_ret (pe_tup (pa_cons (pv 1) (pa_cons (pe_callTy call_tuple_of (by rfl) T.m_tuple (by decide +kernel) (pa_cons (pe_lc (own := [("_law_pair", 8)]) (g := (gName 8)) (by rfl) sc_law_web.nd (pi_list (pe_callB (cr_sortedDT rfl hr.units) (by rfl) T.m_sorted (by decide +kernel) (pa_cons (pv 3) pa_nil))) (blkOk_by (own := [("_law_pair", 8)]) (N := nm_law_web) (sc := defScope s_law_web) (by decide +kernel)) (fun _ _ _ _ _ => (pg_name (i := 8) sc_law_web.nd rfl (Or.inl rfl))) (fun _ _ _ _ _ => pts_nil) (fun _ _ _ _ _ => (pe_op (r := rCatT K) op_catT (pv 8) (pe_tup (pa_cons (pe_dget hu (pv 3) (pv 8) (fun _ _ => rfl)) pa_nil))))) pa_nil)) pa_nil))))))))), ?_⟩
    -- heavy
    refine ⟨_, rfl, b, 4, c, rfl, hb, by omega, by decide, by decide, fun hv H1 hv1 hv2 hb1 => ?_⟩
    -- ties
    refine fun d hd1 => ?_
    have nbd : b ≠ d := hb1.at_.ne hd1
    have hd : H d = none := hb1.free hd1
    have hb2 : Bx b (c + 1) H (upd H1 d (.dT [])) := hb1.own hd nbd
    -- for place in range(1, many)
    refine ⟨_, rfl, 1, n, rfl, ⟨by decide, by decide, by omega, by omega⟩, for_range (lo := 1) (n := (n - 1).toNat) (fun i σ H' => ∃ (kvs : List (List Key × V)) (x4 : Option V), σ = [some (.ref b), some (.int n), some (.int hv), some (.ref d), x4, none, none, none, none] ∧ Bx b (c + 1 + 4 * i) H H' ∧ H' d = some (.dT kvs) ∧ (TieKvs n kvs ∧ LightK kvs) ∧ kvs.length ≤ i)
      ⟨[], none, rfl, hb2, upd_same, ⟨.nil, fun p h => by cases h⟩, Nat.le_refl _⟩ ?_ ?_⟩
    · rintro i σ H2 hi ⟨kvs, x4, rfl, hb2, hd2, ⟨hk, hlt⟩, hl⟩
      refine ⟨_, rfl, b, 9, _, rfl, hb2.at_, by omega, by decide, by decide, fun v H3 h1 h2 hb3 => ⟨_, _, rfl, rfl, _, rfl, ite2 (fun _ => ?_) (fun _ => ?_)⟩⟩
      · have hd3 := hb3.at nbd.symm hd2
        refine ⟨_, rfl, _, rfl, b, hv, _, rfl, hb3.at_, by omega, by omega, by omega, fun wt H4 h1 h2 hb4 => ?_⟩
        have hd4 := hb4.at nbd.symm hd3
        refine ⟨_, rfl, _, rfl, _, rfl, b, _, _, rfl, hb4.at_, by omega, by omega, by omega, fun a H5 h3 h4 hb5 => ?_⟩
        have hd5 := hb5.at nbd.symm hd4
        refine ⟨_, rfl, (by show 2 ≤ sizeLine; decide), fun p hp => ?_⟩
        refine ⟨d, _, rfl, .t (k := kPair a (1 + (i : Int))) (by rw [upd_ne (ne_of_none hd5 hp)]; exact hd5) upd_same (sz_lt (by omega)), ?_⟩
        exact ⟨putK kvs (kPair a (1 + (i : Int))) (.int wt), _, rfl, ((((hb2.trans hb3).trans hb4).trans hb5).mono (by omega)).new hp |>.own hd nbd, upd_same, ⟨hk.put (by omega) (by omega) (by omega) h1 (Int.le_refl _), hlt.put h2⟩, Nat.le_trans (length_putK _ _ _) (by omega)⟩
      · exact ⟨kvs, _, rfl, (hb2.trans hb3).mono (by omega), hb3.at nbd.symm hd2, ⟨hk, hlt⟩, by omega⟩
    · rintro σ H2 ⟨kvs, x4, rfl, hb2, hd2, ⟨hk, hlt⟩, hl⟩
      -- for turn in range(min(take(..), 91 - many))
      refine ⟨_, rfl, _, rfl, _, _, rfl, rfl, .inl ⟨by decide, by decide⟩, _, _, rfl, rfl, b, _, _, rfl, hb2.at_, by omega, by omega, by omega, fun v H3 h1 h2 hb3 => ?_⟩
      have hd3 := hb3.at nbd.symm hd2
      refine ⟨_, rfl, _, _, rfl, rfl, _, _, rfl, ?_⟩
      obtain ⟨m, hm, hm1⟩ : ∃ m : Int, (if 91 - n < v then 91 - n else v) = m ∧ 0 ≤ m ∧ m ≤ 91 - n := by
        refine ⟨_, rfl, ?_⟩
        split <;> omega
      rw [hm]
      have hb4 := (hb2.trans hb3).mono (d := c + 150) (by omega)
      refine ⟨m, rfl, by omega, by omega, for_range (lo := 0) (n := m.toNat) (fun i σ H' => ∃ (kvs : List (List Key × V)) (x4 x5 x6 x7 : Option V), σ = [some (.ref b), some (.int n), some (.int hv), some (.ref d), x4, x5, x6, x7, none] ∧ Bx b (c + 150 + 5 * i) H H' ∧ H' d = some (.dT kvs) ∧ (TieKvs n kvs ∧ LightK kvs) ∧ kvs.length ≤ (n - 1).toNat + i)
        ⟨kvs, x4, none, none, none, rfl, hb4, hd3, ⟨hk, hlt⟩, hl⟩ ?_ ?_⟩
      · rintro i σ H4 hi ⟨kvs, x4, x5, x6, x7, rfl, hb4, hd4, ⟨hk, hlt⟩, hl⟩
        refine ⟨_, rfl, _, rfl, b, n, _, rfl, hb4.at_, by omega, by omega, by omega, fun one H5 h1 h2 hb5 => ⟨_, rfl, _, rfl, b, n, _, rfl, hb5.at_, by omega, by omega, by omega, fun two H6 h3 h4 hb6 => ⟨_, _, rfl, ?_⟩⟩⟩
        have hb7 := (hb4.trans hb5).trans hb6
        have hd6 := hb6.at nbd.symm (hb5.at nbd.symm hd4)
        refine ⟨_, rfl, _, rfl, rfl, _, rfl, ite2 (fun e => ?_) (fun _ => ?_)⟩
        · have hne : one ≠ two := fun z => by
            rw [z] at e
            simp at e
          refine ⟨_, rfl, _, rfl, b, hv, _, rfl, hb7.at_, by omega, by omega, by omega, fun wt H7 h5 h6 hb8 => ?_⟩
          have hd7 := hb8.at nbd.symm hd6
          refine ⟨_, rfl, _, rfl, _, rfl, _, _, rfl, _, rfl, _, rfl, _, _, rfl, (by show 2 ≤ sizeLine; decide), fun p hp => ?_⟩
          obtain ⟨x, y, ex, ey, hx0, hxy, hyn⟩ : ∃ x y : Int, (if two < one then two else one) = x ∧ (if two > one then two else one) = y ∧ 0 ≤ x ∧ x < y ∧ y < n := by
            refine ⟨_, _, rfl, rfl, ?_⟩
            split <;> split <;> omega
          rw [ex, ey]
          refine ⟨d, _, rfl, .t (k := kPair x y) (by rw [upd_ne (ne_of_none hd7 hp)]; exact hd7) upd_same (sz_lt (by omega)), ?_⟩
          exact ⟨putK kvs (kPair x y) (.int wt), _, _, _, _, rfl, ((hb7.trans hb8).mono (by omega)).new hp |>.own hd nbd, upd_same, ⟨hk.put hx0 hxy hyn h5 (Int.le_refl _), hlt.put h6⟩, Nat.le_trans (length_putK _ _ _) (by omega)⟩
        · exact ⟨kvs, _, _, _, _, rfl, hb7.mono (by omega), hd6, ⟨hk, hlt⟩, by omega⟩
      · rintro σ H4 ⟨kvs, x4, x5, x6, x7, rfl, hb4, hd4, ⟨hk, hlt⟩, hl⟩
        have hl2 : kvs.length ≤ 100 := by omega
        obtain ⟨ks, hks, hkl, hkk⟩ := TieKvs.keys hk.1
        -- the tuple
        refine ⟨_, rfl, _, rfl, d, kvs, ks, rfl, .of hd4, hks, fun k hk' => ?_, fun bs L hbs hbt hL => ?_⟩
        · obtain ⟨a, b', rfl⟩ := hkk k hk'
          exact List.cons_ne_nil _ _
        have hbs2 : kvs.map (·.1) = (bs.map (·.2)).map (·.map Sum.inl) := by rw [hbs]; exact hks
        have hweb := web_of hn hk hbs2 hl2
        have hlight : ∀ t ∈ (bs.mergeSort leTI).map (fun b => tieOf kvs b.2), t.2.2 ≤ 1000000000 := fun t ht => by
          obtain ⟨b0, hb0, rfl⟩ := List.mem_map.mp ht
          obtain ⟨z1, z2, z3, _, z4, z5, _⟩ := hk.at hbs2 (List.mem_map.mpr ⟨b0, (sortTI_perm bs).mem_iff.mp hb0, rfl⟩)
          rw [z5]
          obtain ⟨p0, hp0, e0⟩ := valV_in z4
          exact hlt p0 hp0 z3 e0
        have nbL : b ≠ L := hb4.at_.ne hL
        have ndL : d ≠ L := ne_of_none hd4 hL
        refine ⟨L, rfl, ⟨_, sq_of upd_same⟩, fun D hD => ?_⟩
        have e4 : Ex H4 (upd H4 L (.lst ((bs.mergeSort leTI).map fun b => V.ref b.1))) := Ex.new hL
        generalize hH5 : upd H4 L (.lst ((bs.mergeSort leTI).map fun b => V.ref b.1)) = H5 at e4 hD ⊢
        have hL5 : H5 L = some (.lst ((bs.mergeSort leTI).map fun b => V.ref b.1)) := by rw [← hH5]; exact upd_same
        have hd5 : H5 d = some (.dT kvs) := e4 _ _ hd4
        have hb5 : Bx b (c + 1000) H H5 := (hb4.ext e4).mono (by omega)
        have nbD : b ≠ D := hb5.at_.ne hD
        have ndD : d ≠ D := ne_of_none hd5 hD
        refine lc_list (K := K) (a := L) (xs := (bs.mergeSort leTI).map fun b => V.ref b.1) (fun i H' => Ex H5 H' ∧ ∃ acc, H' D = some (.lst acc) ∧ DqAll K (mi H' (D :: S)) acc ((((bs.mergeSort leTI).map fun b => tieOf kvs b.2).take i).map tieD))
          ⟨Ex.new hD, [], upd_same, .nil⟩ (fun i H' _ h => sq_of (h.1 _ _ hL5)) ?_ ?_
        · rintro i x H6 hx ⟨e6, acc, hA, hdp⟩
          rw [List.getElem?_map] at hx
          obtain ⟨bb, hbb, rfl⟩ := Option.map_eq_some_iff.mp hx
          have hmem : bb ∈ bs := (sortTI_perm bs).mem_iff.mp (List.mem_of_getElem? hbb)
          obtain ⟨a1, a2, wt, ek, ev, et, _⟩ := hk.at hbs2 (List.mem_map.mpr ⟨bb, hmem, rfl⟩)
          have hbb6 : H6 bb.1 = some (.tup (bb.2.map V.int)) := e6 _ _ (e4 _ _ (hbt bb hmem))
          refine ⟨rfl, ?_⟩
          refine ⟨_, rfl, _, rfl, _, rfl, d, .int wt, rfl, .inr ⟨kvs, bb.2.map Sum.inl, bb.1, .of (e6 _ _ hd5), rfl, ?_, ev.symm⟩, (by show 1 ≤ sizeLine; decide), fun p hp => ?_⟩
          · rw [hbb6, List.map_map]
            rfl
          have hp1 : bb.1 ≠ p := ne_of_none hbb6 hp
          refine ⟨bb.1, p, _, _, rfl, rfl, st_of (by rw [upd_ne hp1]; exact hbb6), st_of upd_same, ?_, ?_, fun z => (by cases z), fun _ p2 hp2 => ?_⟩
          · rw [ek]; exact List.cons_ne_nil _ _
          · rw [ek]; show 3 ≤ sizeLine; decide
          have hA2 : H6 D = some (.lst acc) := hA
          have nD1 : D ≠ p := ne_of_none hA2 hp
          have nD2 : D ≠ p2 := ne_of_none (show (upd H6 p (.tup [.int wt])) D = some (.lst acc) by rw [upd_ne nD1]; exact hA2) hp2
          have e7 : Ex H6 (upd (upd H6 p (.tup [.int wt])) p2 (.tup (bb.2.map V.int ++ [.int wt]))) := (Ex.new hp).trans (Ex.new hp2)
          have hlen : i < bs.length := by
            have := (List.getElem?_eq_some_iff.mp hbb).1
            rw [List.length_mergeSort] at this
            exact this
          have hbl : bs.length ≤ 100 := by
            have e8 := congrArg List.length hbs
            rw [List.length_map] at e8
            omega
          have haccl : acc.length ≤ 100 := by
            have e8 := DqAll.length hdp
            rw [List.length_map, List.length_take, List.length_map, List.length_mergeSort] at e8
            omega
          have hb7 : (upd (upd H6 p (.tup [.int wt])) p2 (.tup (bb.2.map V.int ++ [.int wt]))) D = some (.lst acc) := e7 _ _ hA2
          have n2S : p2 ∉ (D :: S) := fun m => by
            rcases List.mem_cons.mp m with z | m
            · exact nD2 z.symm
            · obtain ⟨o, ho⟩ := hb5.def hSd p2 m
              rw [(Ex.new hp) _ _ (e6 _ _ ho)] at hp2
              cases hp2
          refine ⟨acc, hb7, sz_lt (by omega), (e6.trans e7).mut hD, acc ++ [.ref p2], upd_same, ?_⟩
          have e9 : Ex (mi H6 (D :: S)) (mi (upd (upd (upd H6 p (.tup [.int wt])) p2 (.tup (bb.2.map V.int ++ [.int wt]))) D (.lst (acc ++ [.ref p2]))) (D :: S)) :=
            ex_mi (ex_upd (mi_ex.trans e7) (mi_no List.mem_cons_self)) fun a m => mi_no m
          have et2 : ((bs.mergeSort leTI).map fun b => tieOf kvs b.2)[i]? = some (a1, a2, wt) := by
            rw [List.getElem?_map, hbb]
            show some (tieOf kvs bb.2) = _
            rw [et]
          rw [List.take_add_one, et2, List.map_append]
          refine DqAll.snoc (DqAll.mono e9 hdp) (.tup (xs := [.int a1, .int a2, .int wt]) ?_ (.cons (.int _) (.cons (.int _) (.cons (.int _) .nil))))
          rw [mi_at n2S, upd_ne nD2.symm, upd_same, ek]
          rfl
        · rintro H6 ⟨e6, acc, hA, hdp⟩
          have hlen2 : ((bs.mergeSort leTI).map fun b => V.ref b.1).length = ((bs.mergeSort leTI).map fun b => tieOf kvs b.2).length := by rw [List.length_map, List.length_map]
          rw [hlen2, List.take_length] at hdp
          refine ⟨D, acc, rfl, .inl ⟨sq_of hA, fun t ht => ⟨(by show 2 ≤ sizeLine; decide), fun r hr2 => ?_⟩⟩⟩
          have hb6 := hb5.ext e6
          have nbt : t ∉ S := nin_def (hb6.def hSd) ht
          have hb8 := hb6.new (o := .tup acc) ht
          have nbr : r ∉ S := nin_def (hb8.def hSd) hr2
          have hb9 := hb8.new (o := .tup [.int n, .ref t]) hr2
          refine q _ _ _ hweb hlight ?_ hb9
          have nrt : t ≠ r := fun z => by rw [← z, upd_same] at hr2; cases hr2
          refine .tup (xs := [.int n, .ref t]) (by rw [mi_at nbr]; exact upd_same) (.cons (.int _) (.cons (.tup (xs := acc) ?_ ?_) .nil))
          · rw [mi_at nbt, upd_ne nrt, upd_same]
          · refine DqAll.mono ?_ hdp
            exact (ex_miw (S := S) (fun a m => List.mem_cons_of_mem _ m)).trans (ex_mim ((Ex.new ht).trans (Ex.new hr2)))
theorem ok_law_web {f : Addr} {fd : FuncData} (T : Txt mg) (Ds : Defs K mg) (D : Dfn K mg "_law_web" s_law_web ps_law_web f fd) : FnOk P w K mg base CX0 3 f fd ps_law_web (spWeb K) :=
  (okL_law_web T Ds D).imp fun vs H Q E ⟨S, b, n, c, e, h1, h2, h3, h4, h5, h6, q⟩ => ⟨S, b, n, c, e, h1, h2, h3, h4, h5, h6, fun v H' ts g1 _ g2 g3 => q v H' ts g1 g2 g3⟩
end
end Pw

/-! ## PwConn -/
namespace Pw
open PySem L2 Evl
/-! ### what hangs together -/
def Adj (ts : List Tie) (x y : Int) : Prop := ∃ t ∈ ts, t.1 = x ∧ t.2.1 = y ∨ t.1 = y ∧ t.2.1 = x
theorem Adj.symm {ts : List Tie} {x y : Int} (h : Adj ts x y) : Adj ts y x := h.elim fun t ⟨h1, h2⟩ => ⟨t, h1, h2.symm⟩
inductive Conn (ts : List Tie) (x : Int) : Int → Prop
  | refl : Conn ts x x
  | tail {y z : Int} : Conn ts x y → Adj ts y z → Conn ts x z
theorem Conn.trans {ts : List Tie} {x y z : Int} (h1 : Conn ts x y) (h2 : Conn ts y z) : Conn ts x z := by
  induction h2 with
  | refl => exact h1
  | tail _ a ih => exact ih.tail a
theorem Conn.symm {ts : List Tie} {x y : Int} (h : Conn ts x y) : Conn ts y x := by
  induction h with
  | refl => exact .refl
  | tail _ a ih => exact (Conn.tail .refl a.symm).trans ih
/-- ties within n places -/
def TiesIn (n : Int) (ts : List Tie) : Prop := ∀ t ∈ ts, 0 ≤ t.1 ∧ t.1 < t.2.1 ∧ t.2.1 < n
theorem WebOk.ins {n : Int} {ts : List Tie} (h : WebOk n ts) : TiesIn n ts := fun t ht => ⟨(h.tie t ht).1, (h.tie t ht).2.1, (h.tie t ht).2.2.1⟩
theorem Conn.range {n : Int} {ts : List Tie} (h : TiesIn n ts) {x y : Int} (c : Conn ts x y) (hx : 0 ≤ x ∧ x < n) : 0 ≤ y ∧ y < n := by
  induction c with
  | refl => exact hx
  | tail _ a _ =>
    obtain ⟨t, ht, e⟩ := a
    have := h t ht
    omega
def nb (ts : List Tie) (p : Int) : List Int := ts.flatMap fun t => if t.1 = p then [t.2.1] else if t.2.1 = p then [t.1] else []
theorem nb_mem {n : Int} {ts : List Tie} (h : TiesIn n ts) {p y : Int} : y ∈ nb ts p ↔ Adj ts p y := by
  unfold nb
  rw [List.mem_flatMap]
  constructor
  · rintro ⟨t, ht, hy⟩
    refine ⟨t, ht, ?_⟩
    by_cases h1 : t.1 = p
    · rw [if_pos h1, List.mem_singleton] at hy
      exact .inl ⟨h1, hy.symm⟩
    · rw [if_neg h1] at hy
      by_cases h2 : t.2.1 = p
      · rw [if_pos h2, List.mem_singleton] at hy
        exact .inr ⟨hy.symm, h2⟩
      · rw [if_neg h2] at hy
        cases hy
  · rintro ⟨t, ht, hy⟩
    refine ⟨t, ht, ?_⟩
    have := h t ht
    rcases hy with ⟨h1, h2⟩ | ⟨h1, h2⟩
    · rw [if_pos h1, h2]
      exact List.mem_singleton.mpr rfl
    · rw [if_neg (by omega), if_pos h2, h1]
      exact List.mem_singleton.mpr rfl
theorem nb_snoc (ts : List Tie) (t : Tie) (p : Int) : nb (ts ++ [t]) p = nb ts p ++ (if t.1 = p then [t.2.1] else if t.2.1 = p then [t.1] else []) := by
  unfold nb
  rw [List.flatMap_append, List.flatMap_singleton]
theorem nb_len (ts : List Tie) (p : Int) : (nb ts p).length ≤ ts.length := by
  induction ts with
  | nil => exact Nat.le_refl _
  | cons t r ih =>
    unfold nb at ih ⊢
    rw [List.flatMap_cons, List.length_append, List.length_cons]
    have : (if t.1 = p then [t.2.1] else if t.2.1 = p then [t.1] else []).length ≤ 1 := by
      split
      · exact Nat.le_refl _
      · split
        · exact Nat.le_refl _
        · exact Nat.zero_le _
    omega
theorem rngI_lt (lo : Int) (n : Nat) : (rngI lo n).Pairwise (· < ·) := by
  unfold rngI
  rw [List.pairwise_map]
  exact List.pairwise_lt_range.imp fun h => by omega
theorem sorted_eq : ∀ {l m : List Int}, l.Pairwise (· < ·) → m.Pairwise (· < ·) → (∀ x, x ∈ l ↔ x ∈ m) → l = m
  | [], [], _, _, _ => rfl
  | [], b :: m, _, _, h => by cases (h b).mpr List.mem_cons_self
  | a :: l, [], _, _, h => by cases (h a).mp List.mem_cons_self
  | a :: l, b :: m, h1, h2, h => by
    rw [List.pairwise_cons] at h1 h2
    have e : a = b := by
      rcases List.mem_cons.mp ((h a).mp List.mem_cons_self) with e | e
      · exact e
      · rcases List.mem_cons.mp ((h b).mpr List.mem_cons_self) with e' | e'
        · exact e'.symm
        · have := h2.1 a e
          have := h1.1 b e'
          omega
    subst e
    congr 1
    refine sorted_eq h1.2 h2.2 fun x => ?_
    constructor
    · intro hx
      rcases List.mem_cons.mp ((h x).mp (List.mem_cons_of_mem _ hx)) with e | e
      · subst e
        exact absurd (h1.1 x hx) (by omega)
      · exact e
    · intro hx
      rcases List.mem_cons.mp ((h x).mpr (List.mem_cons_of_mem _ hx)) with e | e
      · subst e
        exact absurd (h2.1 x hx) (by omega)
      · exact e
theorem sorted_of {ys ks : List Int} (h : ys.Perm ks) (hs : ys.Pairwise (· ≤ ·)) (hn : ks.Nodup) : ys.Pairwise (· < ·) := by
  have h1 : ys.Nodup := h.nodup_iff.mpr hn
  exact (hs.and h1).imp fun ⟨a, b⟩ => by omega
/-- the places that hang on one -/
noncomputable def comp (n : Int) (ts : List Tie) (p : Int) : List Int := (rngI 0 n.toNat).filter fun x => @decide (Conn ts p x) (Classical.propDecidable _)
theorem comp_mem {n : Int} {ts : List Tie} {p x : Int} : x ∈ comp n ts p ↔ (0 ≤ x ∧ x < n) ∧ Conn ts p x := by
  unfold comp
  rw [List.mem_filter, rngI_mem, @decide_eq_true_iff _ (Classical.propDecidable _)]
  constructor
  · rintro ⟨h1, h2⟩
    exact ⟨by omega, h2⟩
  · rintro ⟨h1, h2⟩
    exact ⟨by omega, h2⟩
theorem comp_lt (n : Int) (ts : List Tie) (p : Int) : (comp n ts p).Pairwise (· < ·) := (rngI_lt _ _).filter _
theorem comp_len (n : Int) (ts : List Tie) (p : Int) : (comp n ts p).length ≤ n.toNat := Nat.le_trans (List.length_filter_le _ _) (by rw [rngI_len]; exact Nat.le_refl _)
/-- how many unlike numbers below n there can be -/
theorem few_in : ∀ {n : Nat} {ks : List Int}, ks.Nodup → (∀ k ∈ ks, 0 ≤ k ∧ k < (n : Int)) → ks.length ≤ n
  | 0, [], _, _ => Nat.le_refl _
  | 0, k :: _, _, h => by
    have := h k List.mem_cons_self
    omega
  | n + 1, ks, h1, h2 => by
    have h3 := few_in (n := n) (ks := ks.erase (n : Int)) (h1.erase _) fun k hk => by
      have h4 := (h1.mem_erase_iff).mp hk
      have h5 := h2 k h4.2
      have h6 := h4.1
      omega
    rw [List.length_erase] at h3
    split at h3 <;> omega
/-- what a walk over all ties keeps for the places: the least of those that hang together -/
structure Firsts (n : Int) (ts : List Tie) (fs : List Int) : Prop where
  len : fs.length = n.toNat
  conn : ∀ (i : Nat) (x : Int), fs[i]? = some x → Conn ts (i : Int) x ∧ 0 ≤ x ∧ x ≤ (i : Int)
def Least (ts : List Tie) (p : Int) : Prop := ∀ y, 0 ≤ y → Conn ts p y → p ≤ y
noncomputable def leastB (ts : List Tie) (p : Int) : Bool := @decide (Least ts p) (Classical.propDecidable _)
theorem leastB_iff {ts : List Tie} {p : Int} : leastB ts p = true ↔ Least ts p := @decide_eq_true_iff _ (Classical.propDecidable _)
noncomputable def parts (n : Int) (ts : List Tie) : List (List Int) := ((rngI 0 n.toNat).filter (leastB ts)).map (comp n ts)
/-- the ties that are not in a cut -/
def outside (ts : List Tie) (ks : List (Int × Int)) : List Tie := ts.filter fun t => !decide ((t.1, t.2.1) ∈ ks)
theorem out_nil (ts : List Tie) : outside ts [] = ts := List.filter_eq_self.mpr fun t _ => by simp
theorem out_in {n : Int} {ts : List Tie} (h : TiesIn n ts) (ks : List (Int × Int)) : TiesIn n (outside ts ks) := fun t ht => h t (List.mem_filter.mp ht).1
theorem out_web {n : Int} {ts : List Tie} (h : WebOk n ts) (ks : List (Int × Int)) : WebOk n (outside ts ks) := ⟨h.pos, fun t ht => h.tie t (List.mem_filter.mp ht).1, h.rise.filter _, Nat.le_trans (List.length_filter_le _ _) h.len⟩
theorem out_mem {ts : List Tie} {ks : List (Int × Int)} {i : Nat} {t u : Tie} (h : ts[i]? = some t) : u ∈ outside (ts.take (i + 1)) ks ↔ u ∈ outside (ts.take i) ks ∨ (u = t ∧ ¬ (t.1, t.2.1) ∈ ks) := by
  unfold outside
  rw [List.take_add_one, h, Option.toList_some, List.filter_append, List.mem_append]
  by_cases q : (t.1, t.2.1) ∈ ks
  · simp [q]
  · simp [q]
end Pw

/-! ## PwNear -/
namespace Pw
open PySem L2 Evl
section
variable {K : PySem.W.Frag} {σ : L2.St} {B H : Hp} {S : List Addr} {te ta tb tl : TE} {tt : TT} {tA : TA} {wi : TI} {g : TG} {tu : TS} {D : Ends} {ds : List PyData} {d : PyData}
theorem g_tie {j1 j2 j3 : Nat} {t : Tie} {x : V} {Q : L2.St → Hp → Prop} (hx : Dq K B x (tieD t)) (e : Ex B H) (q : Q (((σ.set j1 (some (.int t.1))).set j2 (some (.int t.2.1))).set j3 (some (.int t.2.2))) H) :
    gTup K 3 (gCons (gName j1) (gCons (gName j2) (gCons (gName j3) gNil))) x σ H Q := by
  cases hx with
  | tup hs hd =>
  cases hd with
  | cons h1 t =>
  cases t with
  | cons h2 t =>
  cases t with
  | cons h3 t =>
  cases t
  cases h1
  cases h2
  cases h3
  exact ⟨_, _, rfl, st_of (e _ _ hs), rfl, _, _, rfl, _, _, rfl, _, _, rfl, rfl, q⟩
theorem st_set {i : Nat} (h : te σ H fun v H' => D.nx (σ.set i (some v)) H') : tAsg te (gName i) D σ H := h
theorem dqAll_of : ∀ {vs : List V} {ds : List PyData}, vs.length = ds.length → (∀ (j : Nat) v d, vs[j]? = some v → ds[j]? = some d → Dq K B v d) → DqAll K B vs ds
  | [], [], _, _ => .nil
  | [], _ :: _, h, _ => by cases h
  | _ :: _, [], h, _ => by cases h
  | v :: vs, d :: ds, h, f => .cons (f 0 v d rfl rfl) (dqAll_of (Nat.succ.inj h) fun j v d h1 h2 => f (j + 1) v d h1 h2)
/-- [[] for _ in ..]: lists of their own -/
theorem lists_lc {l : List PyData} {vs : List Nat} {j : Nat} (hk : WkD K wi σ B l) (hl : l.length ≤ 40000) (hv : ∀ x, wipe ((wipe σ vs).set j (some x)) vs = wipe σ vs) (w : Wd S B H) {Q : VK}
    (q : ∀ L ps H', Ex H H' → H' L = some (.lst (ps.map V.ref)) → ps.length = l.length → (L :: ps).Nodup → (∀ p ∈ ps, H' p = some (.lst [])) → (∀ p ∈ L :: ps, H p = none) → Q (.ref L) H') :
    tLc wi (gName j) tYes (tLst tNil) vs σ H Q := by
  refine hk S H w _ fun J B1 H1 e1 eB1 w1 hgo hstop hyld Dl hD => ?_
  refine ⟨fun i m H' => m = l.length - i ∧ i ≤ l.length ∧ Ex H1 H' ∧ ∃ B' ps, Ex B1 B' ∧ Wd (Dl :: S) B' H' ∧ H' Dl = some (.lst (ps.map V.ref)) ∧ ps.length = i ∧ (Dl :: ps).Nodup ∧ (∀ p ∈ ps, H' p = some (.lst [])) ∧ ∀ p ∈ ps, H1 p = none,
    ⟨l.length, by omega, Nat.zero_le _, Ex.new hD, B1, [], Ex.refl _, w1.own hD, upd_same, rfl, List.nodup_cons.mpr ⟨(fun h => by cases h), List.nodup_nil⟩, (fun p h => by cases h), (fun p h => by cases h)⟩, ?_⟩
  rintro i m H2 ⟨rfl, hi, eH, B2, ps, eB2, w2, hA, hpl, hnd, hps, hfr⟩
  by_cases hlt : i < l.length
  · refine .inr ⟨hgo i H2 (eB2.trans w2.ex) hlt, fun H' => Ex H1 H' ∧ ∃ B' ps, Ex B1 B' ∧ Wd (Dl :: S) B' H' ∧ H' Dl = some (.lst (ps.map V.ref)) ∧ ps.length = i + 1 ∧ (Dl :: ps).Nodup ∧ (∀ p ∈ ps, H' p = some (.lst [])) ∧ ∀ p ∈ ps, H1 p = none,
      fun H' h => ⟨l.length - (i + 1), by omega, rfl, by omega, h⟩, fun x H3 hy => ?_⟩
    obtain ⟨B3, e3, eB3, w3, d, hd1, hd2⟩ := hyld i (Dl :: S) B2 H2 x H3 eB2 w2 hlt hy
    refine ⟨hv _, ?_⟩
    refine ⟨by decide, fun p hp => ?_⟩
    have hA3 := e3 _ _ hA
    have npD : p ≠ Dl := (ne_of_none hA3 hp).symm
    have hp1 : H1 p = none := fresh_back (eH.trans e3) hp
    have npp : p ∉ ps := fun z => by
      rw [e3 _ _ (hps p z)] at hp
      cases hp
    refine ⟨ps.map V.ref, (by rw [upd_ne npD.symm]; exact hA3), sz_lt (by rw [List.length_map]; omega), ?_, B3, ps ++ [p], eB2.trans eB3, ((w3.ext (Ex.new hp))).put List.mem_cons_self, ?_, by rw [List.length_append, hpl]; rfl, ?_, ?_, ?_⟩
    · exact ((eH.trans e3).trans (Ex.new hp)).mut hD
    · rw [List.map_append]
      exact upd_same
    · rw [List.nodup_cons] at hnd ⊢
      refine ⟨fun z => ?_, ?_⟩
      · rcases List.mem_append.mp z with z | z
        · exact hnd.1 z
        · exact npD (List.mem_singleton.mp z).symm
      · rw [List.nodup_append]
        refine ⟨hnd.2, List.nodup_cons.mpr ⟨fun h => (by cases h), List.nodup_nil⟩, fun a ha b hb => ?_⟩
        rw [List.mem_singleton.mp hb]
        exact fun z => npp (z ▸ ha)
    · intro q' hq'
      rw [List.nodup_cons] at hnd
      rcases List.mem_append.mp hq' with z | z
      · have q1 : q' ≠ Dl := fun y => hnd.1 (by rw [← y]; exact z)
        have q2 : q' ≠ p := fun y => npp (by rw [← y]; exact z)
        rw [upd_ne q1, upd_ne q2]
        exact e3 _ _ (hps q' z)
      · rw [List.mem_singleton.mp z, upd_ne npD]
        exact upd_same
    · intro q' hq'
      rcases List.mem_append.mp hq' with z | z
      · exact hfr q' z
      · rw [List.mem_singleton.mp z]
        exact hp1
  · have ei : i = l.length := by omega
    refine .inl ⟨hstop _ H2 (eB2.trans w2.ex) (by omega), q _ ps _ (e1.trans eH) hA (by omega) hnd hps fun p hp => ?_⟩
    rcases List.mem_cons.mp hp with rfl | hp
    · exact fresh_back e1 hD
    · exact fresh_back e1 (hfr p hp)
theorem nodup_at {ps : List Addr} (h : ps.Nodup) {i j : Nat} {p : Addr} (hi : ps[i]? = some p) (hj : ps[j]? = some p) : i = j := by
  obtain ⟨a, b⟩ := List.getElem?_eq_some_iff.mp hi
  obtain ⟨c, d⟩ := List.getElem?_eq_some_iff.mp hj
  have h2 := List.pairwise_iff_getElem.mp h
  rcases Nat.lt_trichotomy i j with q | q | q
  · exact absurd (b.trans d.symm) (h2 i j a c q)
  · exact q
  · exact absurd (d.trans b.symm) (h2 j i c a q)
/-- found[a].append(b) -/
theorem st_appAt {i ja jb : Nat} {L p : Addr} {ps : List Addr} {ys : List V} {k : Int} {v : V} (hi : σ[i]? = some (some (.ref L))) (hja : σ[ja]? = some (some (.int k))) (hjb : σ[jb]? = some (some v)) (hL : H L = some (.lst (ps.map V.ref)))
    (hat : atI (ps.map V.ref) k = some (.ref p)) (hp : H p = some (.lst ys)) (hl : ys.length ≤ 40000) (q : D.nx σ (upd H p (.lst (ys ++ [v])))) : tDrop (tBM K "list" rAppend (tOp (rIxL K) (tVar i) (tVar ja)) (tCons (tVar jb) tNil)) D σ H :=
  ⟨_, hi, _, hja, L, _, k, _, rfl, rfl, sq_of hL, hat, .inl ⟨rfl, _, sq_of hp⟩, _, hjb, p, ys, v, rfl, rfl, hp, sz_lt (by omega), q⟩
theorem atI_at {α : Type} {xs : List α} {k : Int} {x : α} (h0 : 0 ≤ k) (h : xs[k.toNat]? = some x) : atI xs k = some x := by
  have e : k = ((k.toNat : Nat) : Int) := by omega
  rw [e]
  exact atI_nat h
/-- worlds with more that is one's own -/
theorem Wd.owns {ps : List Addr} {H' : Hp} (w : Wd S B H) (e : Ex H H') (hn : ∀ p ∈ ps, H p = none) (hd : ∀ p ∈ ps, ∃ o, H' p = some o) : Wd (ps ++ S) B H' := by
  refine ⟨w.ex.trans e, fun s m => ?_, fun s m => ?_⟩
  · rcases List.mem_append.mp m with m | m
    · exact w.fresh (hn s m)
    · exact w.no s m
  · rcases List.mem_append.mp m with m | m
    · exact hd s m
    · exact (w.ext e).at_ s m
end
def nearD (n : Int) (ts : List Tie) : PyData := .list ((rngI 0 n.toNat).map fun p => .list ((nb ts p).map .int))
end Pw

/-! ## PwWalk -/
namespace Pw
open PySem L2 Evl
theorem isSome_iff {κ : Type} [DecidableEq κ] (k : κ) : ∀ kvs : List (κ × V), (valV kvs k).isSome = true ↔ k ∈ kvs.map (·.1)
  | [] => by simp [valV_nil]
  | p :: r => by
    by_cases h : p.1 = k
    · rw [valV_pos h]
      simp [h]
    · rw [valV_neg h, isSome_iff k r, List.map_cons, List.mem_cons]
      exact ⟨.inr, fun z => z.elim (fun e => absurd e.symm h) id⟩
theorem putK_new {κ : Type} [DecidableEq κ] {kvs : List (κ × V)} {k : κ} {v : V} (h : ¬ k ∈ kvs.map (·.1)) : (putK kvs k v).map (·.1) = kvs.map (·.1) ++ [k] := by
  unfold putK
  rw [if_neg, List.map_append]
  · rfl
  · intro q
    obtain ⟨x, hx, e⟩ := List.any_eq_true.mp q
    exact h (List.mem_map.mpr ⟨x, hx, of_decide_eq_true e⟩)
/-- a walk from place to place, on its way -/
structure Walk (n : Int) (ts : List Tie) (p : Int) (ks ws : List Int) : Prop where
  nodup : ks.Nodup
  inn : ∀ k ∈ ks, 0 ≤ k ∧ k < n
  conn : ∀ k ∈ ks, Conn ts p k
  start : p ∈ ks
  sub : ∀ x ∈ ws, x ∈ ks
  closed : ∀ x ∈ ks, x ∉ ws → ∀ y, Adj ts x y → y ∈ ks
/-- one place being looked at -/
structure WalkIn (n : Int) (ts : List Tie) (p x : Int) (done : List Int) (ks ws : List Int) : Prop where
  nodup : ks.Nodup
  inn : ∀ k ∈ ks, 0 ≤ k ∧ k < n
  conn : ∀ k ∈ ks, Conn ts p k
  start : p ∈ ks
  sub : ∀ x ∈ ws, x ∈ ks
  here : x ∈ ks
  closed : ∀ z ∈ ks, z ∉ ws → z ≠ x → ∀ y, Adj ts z y → y ∈ ks
  seen : ∀ y ∈ done, y ∈ ks
theorem Walk.pop {n : Int} {ts : List Tie} {p x : Int} {ks ws : List Int} (h : Walk n ts p ks (ws ++ [x])) : WalkIn n ts p x [] ks ws :=
  ⟨h.nodup, h.inn, h.conn, h.start, fun y hy => h.sub y (List.mem_append_left _ hy), h.sub x (List.mem_append_right _ (List.mem_singleton.mpr rfl)), fun z hz hw hx => h.closed z hz fun m => (List.mem_append.mp m).elim hw fun e => hx (List.mem_singleton.mp e), fun y hy => by cases hy⟩
theorem WalkIn.old {n : Int} {ts : List Tie} {p x y : Int} {done ks ws : List Int} (h : WalkIn n ts p x done ks ws) (hy : y ∈ ks) : WalkIn n ts p x (done ++ [y]) ks ws :=
  ⟨h.nodup, h.inn, h.conn, h.start, h.sub, h.here, h.closed, fun z hz => (List.mem_append.mp hz).elim (h.seen z) fun e => List.mem_singleton.mp e ▸ hy⟩
theorem WalkIn.new {n : Int} {ts : List Tie} {p x y : Int} {done ks ws : List Int} (h : WalkIn n ts p x done ks ws) (hi : TiesIn n ts) (ha : Adj ts x y) (hy : ¬ y ∈ ks) : WalkIn n ts p x (done ++ [y]) (ks ++ [y]) (ws ++ [y]) := by
  refine ⟨?_, fun k hk => ?_, fun k hk => ?_, List.mem_append_left _ h.start, fun z hz => ?_, List.mem_append_left _ h.here, fun z hz hw hx u hu => ?_, fun z hz => ?_⟩
  · rw [List.nodup_append]
    exact ⟨h.nodup, List.nodup_cons.mpr ⟨fun q => (by cases q), List.nodup_nil⟩, fun a ha b hb e => hy (by rw [← List.mem_singleton.mp hb, ← e]; exact ha)⟩
  · rcases List.mem_append.mp hk with hk | hk
    · exact h.inn k hk
    · rw [List.mem_singleton.mp hk]
      exact (Conn.tail .refl ha).range hi (h.inn x h.here)
  · rcases List.mem_append.mp hk with hk | hk
    · exact h.conn k hk
    · rw [List.mem_singleton.mp hk]
      exact (h.conn x h.here).tail ha
  · rcases List.mem_append.mp hz with hz | hz
    · exact List.mem_append_left _ (h.sub z hz)
    · exact List.mem_append_right _ hz
  · rcases List.mem_append.mp hz with hz | hz
    · exact List.mem_append_left _ (h.closed z hz (fun m => hw (List.mem_append_left _ m)) hx u hu)
    · exact absurd (List.mem_append_right _ hz) hw
  · rcases List.mem_append.mp hz with hz | hz
    · exact List.mem_append_left _ (h.seen z hz)
    · exact List.mem_append_right _ hz
theorem WalkIn.end {n : Int} {ts : List Tie} {p x : Int} {ks ws : List Int} (h : WalkIn n ts p x (nb ts x) ks ws) (hi : TiesIn n ts) : Walk n ts p ks ws :=
  ⟨h.nodup, h.inn, h.conn, h.start, h.sub, fun z hz hw y hy => by
    by_cases e : z = x
    · subst e
      exact h.seen y ((nb_mem hi).mpr hy)
    · exact h.closed z hz hw e y hy⟩
theorem Walk.comp {n : Int} {ts : List Tie} {p : Int} {ks ys : List Int} (h : Walk n ts p ks []) (hp : ys.Perm ks) (hs : ys.Pairwise (· ≤ ·)) : ys = comp n ts p := by
  refine sorted_eq (sorted_of hp hs h.nodup) (comp_lt n ts p) fun x => ?_
  rw [hp.mem_iff, comp_mem]
  constructor
  · exact fun hx => ⟨h.inn x hx, h.conn x hx⟩
  · rintro ⟨hr, c⟩
    clear hr
    induction c with
    | refl => exact h.start
    | tail c a ih => exact h.closed _ ih (fun m => by cases m) _ a
section
variable {K : PySem.W.Frag} {σ : L2.St} {B H : Hp} {S : List Addr} {te ta tb tl : TE} {D : Ends}
/-- dict([(k, ..), ..]): a dict of its own -/
theorem dset_new {ks : List Int} {f : Int → PyData} (h : EvD K ta σ B (.list (ks.map fun k => .tuple [.int k, f k]))) (w : Wd S B H) {Q : VK}
    (q : ∀ o H' more, Ex H H' → H o = none → H' o = some (.dK more) → more.length ≤ ks.length → (∀ k : Int, (valV more (.inl k)).isSome = decide (k ∈ ks)) → Q (.ref o) H') : tCB (rDictP K) (tCons ta tNil) σ H Q :=
  (ea_cons h ea_nil).bind w fun vs B1 H1 e1 eB1 w1 rs => by
    cases rs with
    | cons r1 r2 =>
    cases r2
    cases r1 with
    | @lst a xs _ hs hd =>
    have hl := DqAll.length hd
    obtain ⟨ps, kvs, rfl, hp, hk⟩ := pairs_ints hd
    refine ⟨a, ps, kvs, rfl, ex_l w1.ex hs, paired_mono w1.ex hp, fun p hp => q p _ _ (e1.trans (Ex.new hp)) (fresh_back e1 hp) upd_same ?_ fun k => ?_⟩
    · have h1 := length_mergeK kvs []
      have h2 := congrArg List.length hk
      rw [List.length_map, List.length_map] at h2
      rw [List.length_nil] at h1
      omega
    · unfold mergeK
      rw [merge_some, hk]
      simp [valV_nil]
theorem atI_last {α : Type} (xs : List α) (x : α) : atI (xs ++ [x]) (-1) = some x := by
  have h : ixN (xs ++ [x]).length (-1) = some xs.length := by
    unfold ixN
    rw [if_neg (by decide), if_pos (by rw [List.length_append]; show -((xs.length + 1 : Nat) : Int) ≤ -1; omega), List.length_append]
    show some ((-1 : Int) + ((xs.length + 1 : Nat) : Int)).toNat = _
    congr 1
    omega
  unfold atI
  rw [h]
  simp
theorem rngI_succ (n : Nat) : rngI 0 (n + 1) = rngI 0 n ++ [(n : Int)] := by
  unfold rngI
  rw [List.range_succ, List.map_append]
  simp
theorem mergeK_iff (k : Key) : ∀ (kvs acc : List (Key × V)), (valV (mergeK acc kvs) k).isSome = true ↔ ((valV acc k).isSome = true ∨ k ∈ kvs.map fun p => p.1)
  | [], acc => by
    show (valV acc k).isSome = true ↔ _
    simp
  | p :: r, acc => by
    have ih := mergeK_iff k r (putK acc p.1 p.2)
    show (valV (mergeK (putK acc p.1 p.2) r) k).isSome = true ↔ _
    rw [ih, valV_put, List.map_cons, List.mem_cons]
    by_cases h : k = p.1
    · rw [if_pos h]
      simp [h]
    · rw [if_neg h]
      simp [h]
noncomputable def partsTo (n : Int) (ts : List Tie) (i : Nat) : List (List Int) := ((rngI 0 i).filter (leastB ts)).map (comp n ts)
theorem partsTo_succ (n : Int) (ts : List Tie) (i : Nat) : partsTo n ts (i + 1) = if leastB ts (i : Int) = true then partsTo n ts i ++ [comp n ts (i : Int)] else partsTo n ts i := by
  unfold partsTo
  rw [rngI_succ, List.filter_append, List.map_append]
  by_cases h : leastB ts (i : Int) = true
  · rw [if_pos h, List.filter_cons, if_pos h]
    rfl
  · rw [if_neg h, List.filter_cons, if_neg h]
    simp
theorem partsTo_len (n : Int) (ts : List Tie) (i : Nat) : (partsTo n ts i).length ≤ i := by
  unfold partsTo
  rw [List.length_map]
  exact Nat.le_trans (List.length_filter_le _ _) (by rw [rngI_len]; exact Nat.le_refl _)
/-- a place that none ahead hangs on -/
theorem least_new {n : Int} {ts : List Tie} (h : TiesIn n ts) {i : Int} (h0 : 0 ≤ i) (h1 : i < n) : Least ts i ↔ ¬ ∃ x, (0 ≤ x ∧ x < i) ∧ Conn ts x i := by
  constructor
  · rintro h2 ⟨x, ⟨h3, h4⟩, c⟩
    have := h2 x h3 c.symm
    omega
  · intro h2 y hy c
    by_cases q : i ≤ y
    · exact q
    · exact absurd ⟨y, ⟨hy, by omega⟩, c.symm⟩ h2
end
end Pw

/-! ## PwFirst -/
namespace Pw
open PySem L2 Evl
/-- numbers for the places, each of a place that it hangs on -/
structure Fok (n : Int) (us : List Tie) (fs : List Int) : Prop where
  len : fs.length = n.toNat
  at_ : ∀ (j : Nat) (x : Int), fs[j]? = some x → Conn us (j : Int) x ∧ 0 ≤ x ∧ x ≤ (j : Int)
theorem Fok.init (n : Int) (us : List Tie) : Fok n us (rngI 0 n.toNat) := ⟨rngI_len, fun j x h => by
  have hj : j < n.toNat := by
    have := (List.getElem?_eq_some_iff.mp h).1
    rw [rngI_len] at this
    exact this
  rw [rngI_get hj] at h
  have e : x = (j : Int) := by
    have := Option.some.inj h
    omega
  subst e
  exact ⟨.refl, by omega, by omega⟩⟩
theorem Fok.set {n : Int} {us : List Tie} {fs : List Int} {j : Nat} {x : Int} (h : Fok n us fs) (c : Conn us (j : Int) x) (h0 : 0 ≤ x) (h1 : x ≤ (j : Int)) : Fok n us (fs.set j x) := ⟨by rw [List.length_set]; exact h.len, fun i y hy => by
  rw [List.getElem?_set] at hy
  by_cases e : j = i
  · subst e
    rw [if_pos rfl] at hy
    split at hy
    · cases hy
      exact ⟨c, h0, h1⟩
    · cases hy
  · rw [if_neg e] at hy
    exact h.at_ i y hy⟩
theorem sum_set : ∀ {fs : List Int} {j : Nat} {x y : Int}, fs[j]? = some y → (fs.set j x).sum = fs.sum - y + x
  | [], _, _, _, h => by simp at h
  | z :: r, 0, x, y, h => by
    cases h
    rw [List.set_cons_zero, List.sum_cons, List.sum_cons]
    omega
  | z :: r, j + 1, x, y, h => by
    rw [List.set_cons_succ, List.sum_cons, List.sum_cons, sum_set (fs := r) h]
    omega
theorem sum_pos : ∀ {fs : List Int}, (∀ x ∈ fs, 0 ≤ x) → 0 ≤ fs.sum
  | [], _ => Int.le_refl _
  | z :: r, h => by
    rw [List.sum_cons]
    have := h z List.mem_cons_self
    have := sum_pos fun x hx => h x (List.mem_cons_of_mem z hx)
    omega
theorem Fok.sum {n : Int} {us : List Tie} {fs : List Int} (h : Fok n us fs) : 0 ≤ fs.sum := sum_pos fun x hx => by
  obtain ⟨j, hj⟩ := List.getElem?_of_mem hx
  exact (h.at_ j x hj).2.1
/-- the least place that a place hangs on -/
noncomputable def firstOf (n : Int) (us : List Tie) (x : Int) : Int := (comp n us x).head?.getD 0
noncomputable def firstsL (n : Int) (us : List Tie) : List Int := (rngI 0 n.toNat).map (firstOf n us)
theorem firstOf_eq {n : Int} {us : List Tie} {x z : Int} (h1 : z ∈ comp n us x) (h2 : ∀ y ∈ comp n us x, z ≤ y) : firstOf n us x = z := by
  unfold firstOf
  have h3 := comp_lt n us x
  match hc : comp n us x with
  | [] => rw [hc] at h1; cases h1
  | c :: r =>
    rw [hc] at h1 h2 h3
    rw [List.pairwise_cons] at h3
    show c = z
    rcases List.mem_cons.mp h1 with e | e
    · exact e.symm
    · have := h3.1 z e
      have := h2 c List.mem_cons_self
      omega
theorem firstOf_spec {n : Int} {us : List Tie} (hi : TiesIn n us) {x : Int} (hx : 0 ≤ x ∧ x < n) : firstOf n us x ∈ comp n us x ∧ ∀ y ∈ comp n us x, firstOf n us x ≤ y := by
  unfold firstOf
  have h1 : x ∈ comp n us x := comp_mem.mpr ⟨hx, .refl⟩
  have h3 := comp_lt n us x
  match hc : comp n us x with
  | [] => rw [hc] at h1; cases h1
  | c :: r =>
    rw [hc] at h3
    rw [List.pairwise_cons] at h3
    refine ⟨List.mem_cons_self, fun y hy => ?_⟩
    show c ≤ y
    rcases List.mem_cons.mp hy with e | e
    · rw [e]; exact Int.le_refl _
    · have := h3.1 y e
      omega
def agree (fs : List Int) (t : Tie) : Prop := fs[t.1.toNat]? = fs[t.2.1.toNat]?
theorem Fok.same {n : Int} {us : List Tie} {fs : List Int} (hi : TiesIn n us) (ha : ∀ t ∈ us, agree fs t) {x y : Int} (c : Conn us x y) (hx : 0 ≤ x ∧ x < n) : fs[x.toNat]? = fs[y.toNat]? := by
  induction c with
  | refl => rfl
  | tail _ a ih =>
    obtain ⟨t, ht, e⟩ := a
    have h := ha t ht
    unfold agree at h
    rcases e with ⟨rfl, rfl⟩ | ⟨rfl, rfl⟩
    · rw [ih, h]
    · rw [ih, h]
theorem Fok.done {n : Int} {us : List Tie} {fs : List Int} (h : Fok n us fs) (hi : TiesIn n us) (ha : ∀ t ∈ us, agree fs t) : fs = firstsL n us := by
  refine List.ext_getElem? fun j => ?_
  unfold firstsL
  by_cases hj : j < n.toNat
  · have hjf : fs[j]? = some (fs[j]'(by rw [h.len]; exact hj)) := List.getElem?_eq_getElem _
    rw [List.getElem?_map, rngI_get hj, hjf]
    show some _ = some _
    congr 1
    rw [show (0 : Int) + (j : Int) = (j : Int) by omega]
    obtain ⟨c, h0, h1⟩ := h.at_ j _ hjf
    refine (firstOf_eq (comp_mem.mpr ⟨c.range hi ⟨by omega, by omega⟩, c⟩) fun y hy => ?_).symm
    obtain ⟨hyr, cy⟩ := comp_mem.mp hy
    have e := Fok.same hi ha cy ⟨by omega, by omega⟩
    rw [show ((j : Int)).toNat = j by omega, hjf] at e
    have := (h.at_ y.toNat _ e.symm).2.2
    omega
  · rw [List.getElem?_eq_none (by rw [h.len]; omega), List.getElem?_eq_none (by rw [List.length_map, rngI_len]; omega)]
theorem firstOf_least {n : Int} {us : List Tie} (hi : TiesIn n us) {x : Int} (hx : 0 ≤ x ∧ x < n) : firstOf n us x = x ↔ Least us x := by
  have h := firstOf_spec hi hx
  constructor
  · intro e y hy c
    rw [e] at h
    exact h.2 y (comp_mem.mpr ⟨c.range hi hx, c⟩)
  · intro hl
    exact firstOf_eq (comp_mem.mpr ⟨hx, .refl⟩) fun y hy => hl y (comp_mem.mp hy).1.1 (comp_mem.mp hy).2
theorem firstOf_conn {n : Int} {us : List Tie} (hi : TiesIn n us) {x y : Int} (hx : 0 ≤ x ∧ x < n) (hy : 0 ≤ y ∧ y < n) : firstOf n us x = firstOf n us y ↔ Conn us x y := by
  have h1 := firstOf_spec hi hx
  have h2 := firstOf_spec hi hy
  constructor
  · intro e
    have a := (comp_mem.mp h1.1).2
    have b := (comp_mem.mp h2.1).2
    rw [← e] at b
    exact a.trans b.symm
  · intro c
    exact firstOf_eq (comp_mem.mpr ⟨(comp_mem.mp h2.1).1, c.trans (comp_mem.mp h2.1).2⟩) fun z hz => h2.2 z (comp_mem.mpr ⟨(comp_mem.mp hz).1, c.symm.trans (comp_mem.mp hz).2⟩)
end Pw

/-! ## PwCat -/
namespace Pw
open PySem L2 Evl
/-- a list that the program has made -/
def DL (K : PySem.W.Frag) (ds : List PyData) (v : V) (B : Hp) : Prop := ∃ a xs, v = .ref a ∧ B a = some (.lst xs) ∧ DqAll K B xs ds
theorem stays_DL {K : PySem.W.Frag} {ds : List PyData} : Stays (DL K ds) := fun v B B' e ⟨a, xs, h1, h2, h3⟩ => ⟨a, xs, h1, e _ _ h2, DqAll.mono e h3⟩
theorem DL.dq {K : PySem.W.Frag} {ds : List PyData} {v : V} {B : Hp} (h : DL K ds v B) : Dq K B v (.list ds) := by
  obtain ⟨a, xs, rfl, h2, h3⟩ := h
  exact .lst (sq_of h2) h3
theorem DqAll.app {K : PySem.W.Frag} {B : Hp} : ∀ {vs ws : List V} {ds es : List PyData}, DqAll K B vs ds → DqAll K B ws es → DqAll K B (vs ++ ws) (ds ++ es)
  | _, _, _, _, .nil, h => h
  | _, _, _, _, .cons a t, h => .cons a (DqAll.app t h)
section
variable {K : PySem.W.Frag} {σ : L2.St} {B H H' : Hp} {S : List Addr} {b : Addr} {k m c : Nat} {te ta tb tl : TE} {tt : TT} {tA : TA} {wi : TI} {g : TG} {R R' : V → Hp → Prop} {ds es : List PyData} {tu : TS} {D : Ends}
theorem ev_lstL (h : EvAD K tA σ B ds) (hl : ds.length ≤ 100000) : EvR (tLst tA) σ B (DL K ds) := evR_of (fun S H w Q q => h.bind w fun vs B1 H1 e1 eB1 w1 rs =>
  ⟨sz_of (by rw [DqAll.length rs]; exact hl), fun p hp => q (.ref p) _ _ (e1.trans (Ex.new hp)) (eB1.trans (w1.newE (o := .lst vs) hp)) (w1.new hp) ⟨p, vs, rfl, upd_same, DqAll.mono (w1.newE hp) rs⟩⟩) stays_DL
theorem ev_catL (ha : EvR ta σ B (DL K ds)) (hb : EvR tb σ B (DL K es)) (hl : ds.length + es.length ≤ 100000) : EvR (tOp rCat ta tb) σ B (DL K (ds ++ es)) := evR_of (fun S H w Q q => ha.bind w fun x B1 H1 e1 eB1 w1 ⟨a1, xs, ex, h1, h1d⟩ => (hb.mono eB1).bind w1 fun y B2 H2 e2 eB2 w2 ⟨a2, ys, ey, h2, h2d⟩ => by
  subst ex ey
  exact ⟨a1, a2, xs, ys, rfl, rfl, w2.ex _ _ (eB2 _ _ h1), w2.ex _ _ h2, (sz_of (by rw [DqAll.length h1d, DqAll.length h2d]; exact hl)), fun p hp => q (.ref p) _ _ ((e1.trans e2).trans (Ex.new hp)) ((eB1.trans eB2).trans (w2.newE (o := .lst (xs ++ ys)) hp)) (w2.new hp) ⟨p, xs ++ ys, rfl, upd_same, DqAll.app (DqAll.mono (eB2.trans (w2.newE hp)) h1d) (DqAll.mono (w2.newE hp) h2d)⟩⟩) stays_DL
abbrev DLP (K : PySem.W.Frag) (P : List PyData → Prop) (v : V) (B : Hp) : Prop := ∃ ds, P ds ∧ DL K ds v B
theorem stays_DLP {P : List PyData → Prop} : Stays (DLP K P) := fun v B B' e ⟨ds, h1, h2⟩ => ⟨ds, h1, stays_DL _ _ _ e h2⟩
theorem ex_catL {P1 P2 : List PyData → Prop} (ha : EvX S b k ta σ B (DLP K P1)) (hb : EvX S b m tb σ B (DLP K P2)) (hl : ∀ d1 d2, P1 d1 → P2 d2 → d1.length + d2.length ≤ 100000) : EvX S b (k + m) (tOp rCat ta tb) σ B (DLP K fun ds => ∃ d1 d2, ds = d1 ++ d2 ∧ P1 d1 ∧ P2 d2) :=
  evX_of (fun H c w hbS hB hlid Q q => ha.bind w hbS hB (by omega) fun x B1 H1 x1 eB1 w1 hB1 ⟨d1, p1, a1, xs, ex, h1, h1d⟩ => (hb.mono eB1).bind w1 hbS hB1 (by omega) fun y B2 H2 x2 eB2 w2 hB2 ⟨d2, p2, a2, ys, ey, h2, h2d⟩ => by
    subst ex ey
    exact ⟨a1, a2, xs, ys, rfl, rfl, w2.ex _ _ (eB2 _ _ h1), w2.ex _ _ h2, (sz_of (by rw [DqAll.length h1d, DqAll.length h2d]; exact hl _ _ p1 p2)), fun p hp => q (.ref p) _ _ ((x1.trans x2).trans (Xs.of (Ex.new hp))) ((eB1.trans eB2).trans (w2.newE (o := .lst (xs ++ ys)) hp)) (w2.new hp) ((hB2.ex (Ex.new hp)).mono (by omega)) ⟨d1 ++ d2, ⟨d1, d2, rfl, p1, p2⟩, p, xs ++ ys, rfl, upd_same, DqAll.app (DqAll.mono (eB2.trans (w2.newE hp)) h1d) (DqAll.mono (w2.newE hp) h2d)⟩⟩) stays_DLP
/-- [e for x in l if t], t or e drawing -/
theorem ex_lcL {α β : Type} (l : List α) (enc : α → PyData) (encY : β → PyData) (Pr : Nat → List β → Prop) {vs : List Nat} (hk : WkD K wi σ B (l.map enc)) (hl : l.length ≤ 40000) (h0 : Pr 0 []) (hlen : ∀ i ys, Pr i ys → ys.length ≤ i)
    (turn : ∀ i a ys, l[i]? = some a → Pr i ys → ∀ x S' B' H' c', Ex B B' → Wd S' B' H' → b ∈ S' → BoxAt H' b c' → c' + k ≤ lid → Dq K B' x (enc a) → ∀ (Qy : VK) (Qn : Hp → Prop),
      (∀ y yv B2 H2, Xs [b] H' H2 → BoxAt H2 b (c' + k) → Wd S' B2 H2 → Ex B' B2 → Dq K B2 yv (encY y) → Pr (i + 1) (ys ++ [y]) → Qy yv H2) → (Pr (i + 1) ys → ∀ B2 H2, Xs [b] H' H2 → BoxAt H2 b (c' + k) → Wd S' B2 H2 → Ex B' B2 → Qn H2) →
      g x (wipe σ vs) H' fun σ2 H2 => wipe σ2 vs = wipe σ vs ∧ tt σ2 H2 fun b H3 => if b = true then te σ2 H3 Qy else Qn H3) :
    EvX S b (l.length * k) (tLc wi g tt te vs) σ B (fun v B' => ∃ ys, Pr l.length ys ∧ DL K (ys.map encY) v B') := fun H c w hb hB hlid Q q => by
  refine hk S H w _ fun J B1 H1 e1 eB1 w1 hgo hstop hyld Dl hD => ?_
  rw [List.length_map] at hgo hstop hyld
  have nbD : Dl ≠ b := fun z => by
    obtain ⟨o, ho⟩ := (hB.ex e1).some
    rw [← z, hD] at ho
    cases ho
  refine ⟨fun i m H' => m = l.length - i ∧ i ≤ l.length ∧ Xs [b] H1 H' ∧ BoxAt H' b (c + i * k) ∧ ∃ B' acc ys, Ex B1 B' ∧ Wd (Dl :: S) B' H' ∧ H' Dl = some (.lst acc) ∧ Pr i ys ∧ DqAll K B' acc (ys.map encY),
    ⟨l.length, by omega, Nat.zero_le _, Xs.of (Ex.new hD), ((hB.ex e1).ex (Ex.new hD)).mono (by omega), B1, [], [], Ex.refl _, w1.own hD, upd_same, h0, .nil⟩, ?_⟩
  rintro i m H2 ⟨rfl, hi, xH, hB2, B2, acc, ys, eB2, w2, hA, hP, hd⟩
  by_cases hlt : i < l.length
  · obtain ⟨a, ha⟩ : ∃ a, l[i]? = some a := ⟨l[i], List.getElem?_eq_getElem hlt⟩
    have hmul : (i + 1) * k ≤ l.length * k := Nat.mul_le_mul_right k hlt
    have hsuc : (i + 1) * k = i * k + k := Nat.succ_mul i k
    refine .inr ⟨hgo i H2 (eB2.trans w2.ex) hlt, fun H' => Xs [b] H1 H' ∧ BoxAt H' b (c + (i + 1) * k) ∧ ∃ B' acc ys, Ex B1 B' ∧ Wd (Dl :: S) B' H' ∧ H' Dl = some (.lst acc) ∧ Pr (i + 1) ys ∧ DqAll K B' acc (ys.map encY), fun H' ⟨h1, h2, h3⟩ => ⟨l.length - (i + 1), by omega, rfl, by omega, h1, h2, h3⟩, fun x H3 hy => ?_⟩
    obtain ⟨B3, e3, eB3, w3, d, hd1, hd2⟩ := hyld i (Dl :: S) B2 H2 x H3 eB2 w2 hlt hy
    have ed : enc a = d := by
      rw [List.getElem?_map, ha] at hd1
      exact Option.some.inj hd1
    subst ed
    have hA3 := e3 _ _ hA
    have hlen2 : acc.length ≤ 40000 := by
      have := hlen _ _ hP
      rw [DqAll.length hd, List.length_map]
      omega
    refine turn i a ys ha hP x (Dl :: S) B3 H3 (c + i * k) (eB1.trans (eB2.trans eB3)) w3 (List.mem_cons_of_mem _ hb) (hB2.ex e3) (by omega) hd2 _ _ (fun y yv B4 H4 x4 hB4 w4 eB4 hy4 hP4 => ?_) (fun hP4 B4 H4 x4 hB4 w4 eB4 => ?_)
    · have hA4 := x4 _ _ (fun z => nbD (List.mem_singleton.mp z)) hA3
      refine ⟨acc, hA4, sz_lt (by omega), ?_, (hB4.mono (by omega)).upd nbD.symm, B4, acc ++ [yv], ys ++ [y], eB2.trans (eB3.trans eB4), w4.put List.mem_cons_self, upd_same, hP4, ?_⟩
      · intro p o hp ho
        rw [upd_ne (ne_of_none ho hD)]
        exact x4 p o hp (e3 _ _ (xH p o hp ho))
      · rw [List.map_append]
        exact DqAll.snoc (DqAll.mono (eB3.trans eB4) hd) hy4
    · exact ⟨xH.trans ((Xs.of e3).trans x4), hB4.mono (by omega), B4, acc, ys, eB2.trans (eB3.trans eB4), w4, x4 _ _ (fun z => nbD (List.mem_singleton.mp z)) hA3, hP4, DqAll.mono (eB3.trans eB4) hd⟩
  · have ei : i = l.length := by omega
    subst ei
    refine .inl ⟨hstop _ H2 (eB2.trans w2.ex) rfl, q _ _ ((Xs.of e1).trans xH) hB2 ?_⟩
    have w4 := w2.give hA (w1.nin hD)
    exact ⟨ys, hP, Dl, acc, rfl, (ex_mi w4.ex w4.no) _ _ upd_same, DqAll.mono (w2.giveE.trans (ex_mi w4.ex w4.no)) hd⟩

/-- a loop over a list of places, these being changed -/
theorem st_forRefs {i : Nat} {L : Addr} {ps : List Addr} (hv : σ[i]? = some (some (.ref L))) (hL : H L = some (.lst (ps.map V.ref))) (Iv : Nat → L2.St → Hp → Prop) (h0 : Iv 0 σ H) (hI : ∀ i σ' H', Iv i σ' H' → H' L = some (.lst (ps.map V.ref)))
    (turn : ∀ i p σ' H', ps[i]? = some p → Iv i σ' H' → g (.ref p) σ' H' fun σ2 H2 => tu { D with nx := Iv (i + 1), ct := Iv (i + 1), bk := D.nx } σ2 H2) (done : ∀ σ' H', Iv ps.length σ' H' → D.nx σ' H') : tFor (iList K (tVar i)) g tu D σ H := by
  refine ⟨_, hv, L, rfl, ⟨_, sq_of hL⟩, fun i m σ' H' => m = ps.length - i ∧ i ≤ ps.length ∧ Iv i σ' H', ⟨ps.length, by omega, Nat.zero_le _, h0⟩, ?_⟩
  rintro i m σ2 H2 ⟨rfl, hi, p⟩
  have hL2 := hI i σ2 H2 p
  by_cases hlt : i < ps.length
  · refine .inr ⟨⟨ps.map V.ref, .ref ps[i], sq_of hL2, by rw [List.getElem?_map, List.getElem?_eq_getElem hlt]; rfl⟩, Iv (i + 1), fun σ' H' p' => ⟨ps.length - (i + 1), by omega, rfl, by omega, p'⟩, fun x H3 hy => ?_⟩
    obtain ⟨rfl, f⟩ := hy
    have hx := f _ (sq_of hL2)
    rw [List.getElem?_map, List.getElem?_eq_getElem hlt] at hx
    cases hx
    exact turn i _ σ2 H3 (List.getElem?_eq_getElem hlt) p
  · have ei : i = ps.length := by omega
    subst ei
    exact .inl ⟨⟨_, sq_of hL2, by rw [List.length_map]; exact Nat.le_refl _⟩, done σ2 H2 p⟩
end
theorem okD_parts {cs : List (List Int)} (h : cs.length ≤ 40000) (h2 : ∀ c ∈ cs, c.length ≤ 40000) : okD 4 (.list (cs.map fun c => .list (c.map .int))) = true := by
  show (decide ((cs.map fun c => PyData.list (c.map .int)).length ≤ 40000) && (cs.map fun c => PyData.list (c.map .int)).all (okD 3)) = true
  rw [List.length_map, decide_eq_true h, Bool.true_and, List.all_map, List.all_eq_true]
  intro c hc
  show (decide ((c.map PyData.int).length ≤ 40000) && (c.map PyData.int).all (okD 2)) = true
  rw [List.length_map, decide_eq_true (h2 c hc), Bool.true_and, List.all_map, List.all_eq_true]
  intro i _
  rfl
theorem parts_len {n : Int} {ts : List Tie} : (parts n ts).length ≤ n.toNat := partsTo_len n ts n.toNat
theorem parts_each {n : Int} {ts : List Tie} {c : List Int} (h : c ∈ parts n ts) : c.length ≤ n.toNat := by
  obtain ⟨p, _, rfl⟩ := List.mem_map.mp h
  exact comp_len n ts p
end Pw

/-! ## PwPop -/
namespace Pw
open PySem L2 Evl
theorem erase_mapA {α β : Type} (f : α → β) : ∀ (l : List α) (i : Nat), (l.map f).eraseIdx i = (l.eraseIdx i).map f
  | [], _ => rfl
  | _ :: _, 0 => rfl
  | a :: r, i + 1 => by
    rw [List.map_cons, List.eraseIdx_cons_succ, List.eraseIdx_cons_succ, List.map_cons, erase_mapA f r i]
theorem DqAll.erase {K : PySem.W.Frag} {B : Hp} : ∀ {vs : List V} {ds : List PyData} (i : Nat), DqAll K B vs ds → DqAll K B (vs.eraseIdx i) (ds.eraseIdx i)
  | _, _, _, .nil => .nil
  | _, _, 0, .cons _ t => t
  | _, _, i + 1, .cons h t => .cons h (DqAll.erase i t)
theorem cons_erase_perm {α : Type} : ∀ (l : List α) (i : Nat) (h : i < l.length), (l[i] :: l.eraseIdx i).Perm l
  | a :: r, 0, _ => List.Perm.refl _
  | a :: r, i + 1, h => by
    have h' : i < r.length := by simpa using h
    have p := cons_erase_perm r i h'
    rw [List.eraseIdx_cons_succ]
    show (r[i] :: a :: r.eraseIdx i).Perm (a :: r)
    exact (List.Perm.swap a r[i] _).trans (p.cons a)
theorem perm_take {α : Type} {ys rest zs : List α} {i : Nat} {z : α} (h : (ys ++ rest).Perm zs) (hz : rest[i]? = some z) : ((ys ++ [z]) ++ rest.eraseIdx i).Perm zs := by
  obtain ⟨hi, e⟩ := List.getElem?_eq_some_iff.mp hz
  have p : (z :: rest.eraseIdx i).Perm rest := by
    rw [← e]
    exact cons_erase_perm rest i hi
  rw [List.append_assoc]
  exact (p.append_left ys).trans h
theorem atI2 {P : PyData → Prop} {x y : PyData} {i : Int} (hi : 0 ≤ i ∧ i < 2) (hx : P x) (hy : P y) : ∃ d, atI [x, y] i = some d ∧ P d := by
  obtain rfl | rfl : i = 0 ∨ i = 1 := by omega
  · exact ⟨x, rfl, hx⟩
  · exact ⟨y, rfl, hy⟩
theorem Xs.sub1 {b : Addr} {H H1 H2 : Hp} (x : Xs [b] H H1) (e : Ex H1 H2) : Xs [b] H H2 := x.trans (Xs.of e)
/-- a method within a comprehension -/
theorem pe_bmK {X : Cx} {o e : Expr} {es : List Expr} {to : TE} {t : TA} {name : Str} {apos cpos : Pos} {T id : String} {r : V → List V → Hp → VK → Prop} (K : PySem.W.Frag) (hK : X.K = K) (pa : PlainAttrs T) (slot : Slot T name id)
    (hty : typeOf (.builtin id) = pure (.type "method_descriptor")) (hm : MtR X id r) (ho : PE X o to) (ha : PA X (e :: es) t) (h1 : attributeBase o name X.env (eval o X.env) = eval o X.env := by rfl)
    (h2 : ((backTo cpos (starEach (e :: es) X.env)).all (fun x => !x.1) && (backToKw cpos (keywordEach [] X.env)).all (fun x => x.1.isSome) && decide ((e :: es).length + ([] : List Keyword).length + (if ([] : List Keyword).isEmpty then 0 else 1) < 30)) = true := by rfl)
    (h3 : (apos.endLine == cpos.line) = true := by rfl) (h4 : starEach (e :: es) X.env = (false, eval e X.env) :: starEach es X.env := by rfl) (h5 : (backTo cpos (starEach es X.env)).any (·.1) = false := by rfl) :
    PE X (.Call (.Attribute o name apos) (e :: es) [] cpos) (tBM K T r to t) := hK ▸ pe_bm pa slot hty hm ho ha h1 h2 h3 h4 h5
section
variable {K : PySem.W.Frag} {σ : L2.St} {B H : Hp} {S : List Addr} {b A : Addr} {c : Nat} {te : TE} {wi : TI} {g : TG} {E : XK}
/-- some.pop(take(box, len(some))) -/
theorem pop_at {ia ib : Nat} {xs : List V} {Q : VK} (ha : σ[ia]? = some (some (.ref A))) (hb : σ[ib]? = some (some (.ref b))) (hA : H A = some (.lst xs)) (nAb : A ≠ b) (hB : BoxAt H b c) (hl : c + 1 ≤ lid) (h0 : 0 < xs.length) (h1 : xs.length ≤ 40000)
    (q : ∀ i v H2, xs[i]? = some v → Xs [b] H H2 → BoxAt H2 b (c + 1) → Q v (upd H2 A (.lst (xs.eraseIdx i)))) :
    tBM K "list" rPopAt (tVar ia) (tCons (tCall spTake [] E (tCons (tVar ib) (tCons (tCB (rLenS K) (tCons (tVar ia) tNil)) tNil))) tNil) σ H Q := by
  refine ⟨_, ha, .inl ⟨rfl, _, sq_of hA⟩, _, hb, _, ha, A, _, rfl, .inl (sq_of hA), b, _, c, rfl, hB, by unfold lid at hl; omega, by omega, by omega, fun i H2 g1 g2 hx => ?_⟩
  have hi : i.toNat < xs.length := by omega
  refine ⟨A, xs, i, i.toNat, xs[i.toNat], rfl, rfl, hx.at nAb hA, by omega, by omega, (ixN_seq ?_).1, List.getElem?_eq_getElem hi, q _ _ _ (List.getElem?_eq_getElem hi) hx.x hx.at_⟩
  unfold ixN
  rw [if_pos g1, if_pos g2]
/-- [e for x in l], nothing drawn: a list that was made -/
theorem ev_lcL {α : Type} (l : List α) (enc : α → PyData) (e : α → PyData) {vs : List Nat} (w : Wd S B H) (hb : b ∈ S) (hB : BoxAt H b c) (hc : c ≤ lid) (hk : WkD K wi σ B (l.map enc)) (hl : l.length ≤ 40000)
    (turn : ∀ a ∈ l, TurnLc K g tYes te σ vs B (enc a) true (e a)) {Q : VK} (q : ∀ v B' H', Ex B B' → Wd S B' H' → Xs [b] H H' → BoxAt H' b c → DL K (l.map e) v B' → Q v H') : tLc wi g tYes te vs σ H Q := by
  refine (ex_lcL (K := K) (b := b) (k := 0) l enc e (fun i ys => ys = l.take i) hk hl rfl (fun i ys h => ?_) fun i a ys hi hP x S' B' H' c' eB' w' hb' hB' hl' hx Qy Qn hy hn => ?_).bind w hb hB (by omega) fun v B1 H1 x1 eB1 w1 hB1 ⟨ys, hys, hd⟩ => ?_
  · rw [h, List.length_take]
    exact Nat.min_le_left _ _
  · refine turn a (List.mem_of_getElem? hi) x S' B' H' eB' w' hx Qy Qn (fun _ y B2 H2 e2 eB2 w2 h2 => hy a y B2 H2 (Xs.of e2) (hB'.ex e2) w2 eB2 h2 ?_) (fun z => by cases z)
    rw [hP, List.take_add_one, hi]
    rfl
  · rw [hys, List.take_length] at hd
    exact q v B1 H1 eB1 w1 x1 (hB1.mono (by omega)) hd
/-- [some.pop(..) for x in l], some one's own list at A, the place drawn from b -/
theorem lc_pop {α β : Type} (l : List β) (encB : β → PyData) (enc : α → PyData) (zs : List α) {vs : List Nat} {xs : List V} (w : Wd S B H) (hb : b ∈ S) (hAS : A ∈ S) (nAb : A ≠ b) (hB : BoxAt H b c) (hlid : c + l.length ≤ lid) (hA : H A = some (.lst xs))
    (hx : DqAll K B xs (zs.map enc)) (hk : WkD K wi σ B (l.map encB)) (hl : l.length ≤ zs.length) (hz : zs.length ≤ 40000)
    (turn : ∀ x H' xs' c' (Qy : VK) (Qn : Hp → Prop), H' A = some (.lst xs') → 0 < xs'.length → xs'.length ≤ 40000 → BoxAt H' b c' → c' + 1 ≤ lid →
      (∀ i v H2, xs'[i]? = some v → Xs [b] H' H2 → BoxAt H2 b (c' + 1) → Qy v (upd H2 A (.lst (xs'.eraseIdx i)))) → g x (wipe σ vs) H' fun σ2 H2 => wipe σ2 vs = wipe σ vs ∧ tYes σ2 H2 fun b H3 => if b = true then te σ2 H3 Qy else Qn H3)
    {Q : VK} (q : ∀ v B' H' (ys rest : List α), (ys ++ rest).Perm zs → ys.length = l.length → Xs [b, A] H H' → Ex B B' → Wd S B' H' → BoxAt H' b (c + l.length) → (∃ xs', H' A = some (.lst xs') ∧ DqAll K B' xs' (rest.map enc)) → DL K (ys.map enc) v B' → Q v H') :
    tLc wi g tYes te vs σ H Q := by
  refine hk S H w _ fun J B1 H1 e1 eB1 w1 hgo hstop hyld Dl hD => ?_
  rw [List.length_map] at hgo hstop hyld
  have nbD : Dl ≠ b := fun z => by
    obtain ⟨o, ho⟩ := (hB.ex e1).some
    rw [← z, hD] at ho
    cases ho
  have nAD : A ≠ Dl := ne_of_none (e1 _ _ hA) hD
  refine ⟨fun i m H' => m = l.length - i ∧ i ≤ l.length ∧ Xs [b, A] H1 H' ∧ BoxAt H' b (c + i) ∧ ∃ B' acc ys rest xs', Ex B1 B' ∧ Wd (Dl :: S) B' H' ∧ H' Dl = some (.lst acc) ∧ H' A = some (.lst xs') ∧ DqAll K B' xs' (List.map enc rest) ∧ DqAll K B' acc (List.map enc ys) ∧ (ys ++ rest).Perm zs ∧ ys.length = i,
    ⟨l.length, by omega, Nat.zero_le _, Xs.of (Ex.new hD), (hB.ex e1).ex (Ex.new hD), B1, [], [], zs, xs, Ex.refl _, w1.own hD, upd_same, by rw [upd_ne nAD]; exact e1 _ _ hA, DqAll.mono eB1 hx, .nil, List.Perm.refl _, rfl⟩, ?_⟩
  rintro i m H2 ⟨rfl, hi, xH, hB2, B2, acc, ys, rest, xs', eB2, w2, hD2, hA2, hr2, hy2, hp, hyl⟩
  by_cases hlt : i < l.length
  · obtain ⟨a, ha⟩ : ∃ a, l[i]? = some a := ⟨l[i], List.getElem?_eq_getElem hlt⟩
    have hrl : xs'.length = rest.length := by rw [DqAll.length hr2, List.length_map]
    have hsum : ys.length + rest.length = zs.length := by rw [← List.length_append]; exact hp.length_eq
    refine .inr ⟨hgo i H2 (eB2.trans w2.ex) hlt, fun H' => Xs [b, A] H1 H' ∧ BoxAt H' b (c + (i + 1)) ∧ ∃ B' acc ys rest xs', Ex B1 B' ∧ Wd (Dl :: S) B' H' ∧ H' Dl = some (.lst acc) ∧ H' A = some (.lst xs') ∧ DqAll K B' xs' (List.map enc rest) ∧ DqAll K B' acc (List.map enc ys) ∧ (ys ++ rest).Perm zs ∧ ys.length = i + 1,
      fun H' ⟨h1, h2, h3⟩ => ⟨l.length - (i + 1), by omega, rfl, by omega, h1, h2, h3⟩, fun x H3 hy => ?_⟩
    obtain ⟨B3, e3, eB3, w3, d, hd1, hd2⟩ := hyld i (Dl :: S) B2 H2 x H3 eB2 w2 hlt hy
    refine turn x H3 xs' (c + i) _ _ (e3 _ _ hA2) (by omega) (by omega) (hB2.ex e3) (by omega) fun j v H4 hj x4 hB4 => ?_
    have hbS' : b ∈ Dl :: S := List.mem_cons_of_mem _ hb
    have w4 := (w3.xs hbS' (hB2.ex e3) x4 hB4).put (o := .lst (xs'.eraseIdx j)) (List.mem_cons_of_mem Dl hAS)
    have eB4 := w3.xsE hbS' x4
    obtain ⟨d2, hz1, hz2⟩ := DqAll.get hr2 hj
    rw [List.getElem?_map] at hz1
    obtain ⟨z, hz3, rfl⟩ := Option.map_eq_some_iff.mp hz1
    have hD4 : upd H4 A (.lst (xs'.eraseIdx j)) Dl = some (.lst acc) := by
      rw [upd_ne nAD.symm]
      exact x4 _ _ (fun z => nbD (List.mem_singleton.mp z)) (e3 _ _ hD2)
    have hacc : acc.length ≤ 40000 := by
      have := DqAll.length hy2
      rw [List.length_map] at this
      omega
    refine ⟨acc, hD4, sz_lt (by omega), ?_, ?_, mi H4 (Dl :: S), acc ++ [v], ys ++ [z], rest.eraseIdx j, xs'.eraseIdx j, eB2.trans (eB3.trans eB4), w4.put List.mem_cons_self, upd_same, by rw [upd_ne nAD, upd_same], ?_, ?_, perm_take hp hz3, by rw [List.length_append, hyl]; rfl⟩
    · intro p o hp' ho
      have hpb : p ≠ b := fun z => hp' (by rw [z]; exact List.mem_cons_self)
      have hpA : p ≠ A := fun z => hp' (by rw [z]; exact List.mem_cons_of_mem _ List.mem_cons_self)
      rw [upd_ne (ne_of_none ho hD), upd_ne hpA]
      exact x4 p o (fun z => hpb (List.mem_singleton.mp z)) (e3 _ _ (xH p o hp' ho))
    · exact ((hB4.upd (o := .lst (xs'.eraseIdx j)) nAb.symm).upd (o := .lst (acc ++ [v])) nbD.symm).mono (by omega)
    · rw [← erase_mapA]
      exact DqAll.erase j (DqAll.mono (eB3.trans eB4) hr2)
    · rw [List.map_append]
      exact DqAll.snoc (DqAll.mono (eB3.trans eB4) hy2) (Dq.mono (eB3.trans eB4) hz2)
  · have ei : i = l.length := by omega
    subst ei
    have w4 := w2.give hD2 (w1.nin hD)
    exact .inl ⟨hstop _ H2 (eB2.trans w2.ex) rfl, q _ _ _ ys rest hp hyl ((Xs.of e1).trans xH) (eB1.trans (eB2.trans w2.giveE)) w4 hB2 ⟨xs', hA2, DqAll.mono w2.giveE hr2⟩ ⟨Dl, acc, rfl, upd_same, DqAll.mono w2.giveE hy2⟩⟩
end
end Pw

/-! ## PwTree -/
namespace Pw
open PySem L2 Evl

/-! ### sorted(..) of a list of tuples of ints -/
def tupI (k : List Int) : PyData := .tuple (k.map .int)
theorem dqs_ti {K : PySem.W.Frag} {B : Hp} : ∀ {ks : List (List Int)} {vs : List V}, DqAll K B vs (ks.map tupI) → ∃ bs : List (Addr × List Int), vs = bs.map (fun b => V.ref b.1) ∧ bs.map (·.2) = ks ∧ ∀ b ∈ bs, B b.1 = some (.tup (b.2.map V.int))
  | [], _, h => by cases h; exact ⟨[], rfl, rfl, fun b h => by cases h⟩
  | k :: ks, _, h => by
    cases h with
    | cons h1 t =>
      obtain ⟨bs, rfl, e2, h3⟩ := dqs_ti t
      cases h1 with
      | @tup a xs _ hs hd =>
        refine ⟨(a, k) :: bs, rfl, by rw [List.map_cons, e2], fun b hb => ?_⟩
        rcases List.mem_cons.mp hb with rfl | hb
        · rw [hs, DqAll.ints_eq hd]
        · exact h3 b hb
theorem dqs_of_ti {K : PySem.W.Frag} {B : Hp} : ∀ {bs : List (Addr × List Int)}, (∀ b ∈ bs, B b.1 = some (.tup (b.2.map V.int))) → DqAll K B (bs.map fun b => V.ref b.1) ((bs.map (·.2)).map tupI)
  | [], _ => .nil
  | b :: bs, h => .cons (.tup (h b List.mem_cons_self) DqAll.ints) (dqs_of_ti fun c hc => h c (List.mem_cons_of_mem _ hc))
def rSortTI (K : PySem.W.Frag) : List V → Hp → VK → Prop := fun vs H Q => ∃ (a : Addr) (bs : List (Addr × List Int)), vs = [V.ref a] ∧ SqL K H a (bs.map fun b => V.ref b.1) ∧ (∀ b ∈ bs, b.2 ≠ [] ∧ SqT K H b.1 (b.2.map V.int)) ∧
    ∀ p, H p = none → Q (.ref p) (upd H p (.lst ((bs.mergeSort leTI).map fun b => V.ref b.1)))
/-- the same, put in order -/
def SortsTo (ks ls : List (List Int)) : Prop := ls.Perm ks ∧ ls.Pairwise (· ≤ ·)
section
variable {K : PySem.W.Frag} {σ : L2.St} {B H : Hp} {S : List Addr} {te : TE}
theorem ev_sortTI {ks : List (List Int)} (h : EvD K te σ B (.list (ks.map tupI))) (hne : ∀ k ∈ ks, k ≠ []) : EvR (tCB (rSortTI K) (tCons te tNil)) σ B (fun v B' => ∃ ls, SortsTo ks ls ∧ DL K (ls.map tupI) v B') :=
  evR_of (fun S H w Q q => h.bind w fun x B1 H1 e1 eB1 w1 rx => by
    cases rx with
    | @lst a xs _ hs hd =>
      obtain ⟨bs, rfl, e2, h3⟩ := dqs_ti hd
      refine ⟨a, bs, rfl, ex_l w1.ex hs, fun b hb => ⟨hne _ (by rw [← e2]; exact List.mem_map.mpr ⟨b, hb, rfl⟩), st_of (w1.ex _ _ (h3 b hb))⟩, fun p hp => ?_⟩
      refine q (.ref p) _ _ (e1.trans (Ex.new hp)) (eB1.trans (w1.newE (o := .lst ((bs.mergeSort leTI).map fun b => V.ref b.1)) hp)) (w1.new hp) ⟨(bs.mergeSort leTI).map (·.2), ⟨?_, ?_⟩, p, _, rfl, upd_same, ?_⟩
      · rw [← e2]
        exact (sortTI_perm bs).map _
      · exact List.pairwise_map.mpr (sortTI_le bs)
      · exact DqAll.mono (w1.newE hp) (dqs_of_ti fun b hb => h3 b ((sortTI_perm bs).mem_iff.mp hb))) fun v B B' e ⟨ls, h1, h2⟩ => ⟨ls, h1, stays_DL _ _ _ e h2⟩
end
theorem sorts_eq {ks ls ms : List (List Int)} (h : SortsTo ks ls) (g : SortsTo ks ms) : ls = ms :=
  List.Perm.eq_of_pairwise (fun a b _ _ h1 h2 => List.le_antisymm h1 h2) h.2 g.2 (h.1.trans g.1.symm)
theorem sorts_ex (ks : List (List Int)) : ∃ ls, SortsTo ks ls := by
  refine ⟨ks.mergeSort fun a b => decide (a ≤ b), List.mergeSort_perm _ _, ?_⟩
  refine (List.pairwise_mergeSort (le := fun (a b : List Int) => decide (a ≤ b)) (fun a b c h1 h2 => ?_) (fun a b => ?_) ks).imp fun {a b} h => of_decide_eq_true h
  · exact decide_eq_true (List.le_trans (of_decide_eq_true h1) (of_decide_eq_true h2))
  · rw [Bool.or_eq_true]
    exact (List.le_total a b).imp decide_eq_true decide_eq_true
theorem ev_sortsTI {K : PySem.W.Frag} {σ : L2.St} {B : Hp} {te : TE} {ks ls : List (List Int)} (h : EvD K te σ B (.list (ks.map tupI))) (hne : ∀ k ∈ ks, k ≠ []) (hs : SortsTo ks ls) : EvR (tCB (rSortTI K) (tCons te tNil)) σ B (DL K (ls.map tupI)) :=
  (ev_sortTI h hne).imp fun v B' ⟨ms, h1, h2⟩ => by rw [sorts_eq hs h1]; exact h2
def tieL (t : Tie) : List Int := [t.1, t.2.1, t.2.2]
theorem tieL_inj {s t : Tie} (h : tieL s = tieL t) : s = t := by
  obtain ⟨a, b, c⟩ := s
  obtain ⟨a', b', c'⟩ := t
  simp only [tieL, List.cons.injEq, and_true] at h
  obtain ⟨rfl, rfl, rfl⟩ := h
  rfl
theorem tie_le {s t : Tie} (h : tieL s ≤ tieL t) : s.1 < t.1 ∨ s.1 = t.1 ∧ s.2.1 ≤ t.2.1 := by
  have h2 : ¬ tieL t < tieL s := List.not_lt.mpr h
  unfold tieL at h2
  rw [List.cons_lt_cons_iff, List.cons_lt_cons_iff] at h2
  omega
/-- sorted ties -/
theorem sorts_ties : ∀ {us : List Tie} {ls : List (List Int)}, ls.Perm (us.map tieL) → ∃ ts : List Tie, ts.Perm us ∧ ls = ts.map tieL := by
  intro us ls h
  have hm : ∀ l ∈ ls, ∃ t ∈ us, tieL t = l := fun l hl => List.mem_map.mp (h.mem_iff.mp hl)
  let g : List Int → Tie := fun l => (l.getD 0 0, l.getD 1 0, l.getD 2 0)
  have hg : ∀ t, g (tieL t) = t := fun t => rfl
  refine ⟨ls.map g, ?_, ?_⟩
  · have p := h.map g
    rw [List.map_map, show (g ∘ tieL) = id from funext hg, List.map_id] at p
    exact p
  · rw [List.map_map, eq_comm]
    refine (List.map_congr_left fun l hl => ?_).trans (List.map_id ls)
    obtain ⟨t, _, rfl⟩ := hm l hl
    show tieL (g (tieL t)) = tieL t
    rw [hg]

/-! ### trees as they are drawn: each place, in the order of names, is tied to an earlier one -/
def mm (a b w : Int) : Tie := (if b < a then b else a, if b > a then b else a, w)
structure Grown (names : List Int) (us : List Tie) : Prop where
  tie : ∀ i t, us[i]? = some t → ∃ p a b w, p ≤ i ∧ names[p]? = some a ∧ names[i + 1]? = some b ∧ 1 ≤ w ∧ w ≤ 1000000000 ∧ t = mm a b w
theorem Grown.nil (names : List Int) : Grown names [] := ⟨fun i t h => by simp at h⟩
theorem Grown.snoc {names : List Int} {us : List Tie} (g : Grown names us) {p : Nat} {a b w : Int} (hp : p ≤ us.length) (ha : names[p]? = some a) (hb : names[us.length + 1]? = some b) (h1 : 1 ≤ w) (h2 : w ≤ 1000000000) : Grown names (us ++ [mm a b w]) :=
  ⟨fun i t h => by
    by_cases c : i < us.length
    · rw [List.getElem?_append_left c] at h
      exact g.tie i t h
    · have hi := (List.getElem?_eq_some_iff.mp h).1
      rw [List.length_append] at hi
      have e : i = us.length := by
        have : i < us.length + 1 := hi
        omega
      subst e
      rw [List.getElem?_append_right (Nat.le_refl _), Nat.sub_self] at h
      cases h
      exact ⟨p, a, b, w, hp, ha, hb, h1, h2, rfl⟩⟩
theorem nd_at {names : List Int} (hn : names.Nodup) {i j : Nat} {a : Int} (hi : names[i]? = some a) (hj : names[j]? = some a) : i = j := by
  obtain ⟨h1, e1⟩ := List.getElem?_eq_some_iff.mp hi
  obtain ⟨h2, e2⟩ := List.getElem?_eq_some_iff.mp hj
  exact (List.getElem_inj hn).mp (e1.trans e2.symm)
theorem mm_ends {a b w : Int} (h : a ≠ b) : (mm a b w).1 < (mm a b w).2.1 ∧ ((mm a b w).1 = a ∧ (mm a b w).2.1 = b ∨ (mm a b w).1 = b ∧ (mm a b w).2.1 = a) := by
  show (if b < a then b else a) < (if b > a then b else a) ∧ ((if b < a then b else a) = a ∧ (if b > a then b else a) = b ∨ (if b < a then b else a) = b ∧ (if b > a then b else a) = a)
  split <;> split <;> omega
theorem Grown.at {names : List Int} {us : List Tie} (g : Grown names us) (hn : names.Nodup) {i : Nat} {t : Tie} (h : us[i]? = some t) :
    ∃ p a b, p ≤ i ∧ names[p]? = some a ∧ names[i + 1]? = some b ∧ (1 ≤ t.2.2 ∧ t.2.2 ≤ 1000000000) ∧ t.1 < t.2.1 ∧ (t.1 = a ∧ t.2.1 = b ∨ t.1 = b ∧ t.2.1 = a) := by
  obtain ⟨p, a, b, w, hp, ha, hb, h1, h2, rfl⟩ := g.tie i t h
  have hne : a ≠ b := fun z => by
    rw [z] at ha
    have := nd_at hn ha hb
    omega
  obtain ⟨m1, m2⟩ := mm_ends (w := w) hne
  exact ⟨p, a, b, hp, ha, hb, ⟨h1, h2⟩, m1, m2⟩
theorem Grown.apart {names : List Int} {us : List Tie} (g : Grown names us) (hn : names.Nodup) {i j : Nat} {s t : Tie} (hij : i < j) (hs : us[i]? = some s) (ht : us[j]? = some t) : ¬ (s.1 = t.1 ∧ s.2.1 = t.2.1) := by
  obtain ⟨p, a, b, hp, ha, hb, _, _, e⟩ := g.at hn hs
  obtain ⟨p', a', b', hp', ha', hb', _, _, e'⟩ := g.at hn ht
  intro ⟨z1, z2⟩
  have hbb : b' = a ∨ b' = b := by omega
  rcases hbb with z | z
  · rw [z] at hb'
    have := nd_at hn hb' ha
    omega
  · rw [z] at hb'
    have := nd_at hn hb' hb
    omega
/-- a tree's web -/
structure TreeOf (n : Int) (names : List Int) (us ts : List Tie) : Prop where
  pos : 1 ≤ n
  top : n ≤ 60
  perm : names.Perm (rngI 0 n.toNat)
  len : us.length + 1 = n.toNat
  grown : Grown names us
  same : ts.Perm us
  ord : (ts.map tieL).Pairwise (· ≤ ·)
theorem rngI_nd (lo : Int) (n : Nat) : (rngI lo n).Nodup := (rngI_lt lo n).imp fun h => by omega
theorem TreeOf.nd {n : Int} {names : List Int} {us ts : List Tie} (T : TreeOf n names us ts) : names.Nodup := T.perm.nodup_iff.mpr (rngI_nd _ _)
theorem TreeOf.tie {n : Int} {names : List Int} {us ts : List Tie} (T : TreeOf n names us ts) {t : Tie} (h : t ∈ ts) : 0 ≤ t.1 ∧ t.1 < t.2.1 ∧ t.2.1 < n ∧ 1 ≤ t.2.2 ∧ t.2.2 ≤ 1000000000 := by
  obtain ⟨i, hi⟩ := List.getElem?_of_mem (T.same.mem_iff.mp h)
  obtain ⟨p, a, b, hp, ha, hb, hw, hlt, e⟩ := T.grown.at T.nd hi
  have ra := rngI_mem.mp (T.perm.mem_iff.mp (List.mem_of_getElem? ha))
  have rb := rngI_mem.mp (T.perm.mem_iff.mp (List.mem_of_getElem? hb))
  omega
theorem TreeOf.web {n : Int} {names : List Int} {us ts : List Tie} (T : TreeOf n names us ts) : WebOk n ts := by
  refine ⟨T.pos, fun t ht => ?_, ?_, ?_⟩
  · have := T.tie ht
    omega
  · have p1 : us.Pairwise (fun s t => ¬ (s.1 = t.1 ∧ s.2.1 = t.2.1)) := List.pairwise_iff_getElem.mpr fun i j hi hj hij => T.grown.apart T.nd hij (List.getElem?_eq_getElem hi) (List.getElem?_eq_getElem hj)
    have p2 : ts.Pairwise (fun s t => ¬ (s.1 = t.1 ∧ s.2.1 = t.2.1)) := T.same.symm.pairwise p1 fun {x y} h z => h ⟨z.1.symm, z.2.symm⟩
    refine ((List.pairwise_map.mp T.ord).and p2).imp fun {s t} ⟨h1, h2⟩ => ?_
    have := tie_le h1
    unfold pairLt
    omega
  · have := T.same.length_eq
    have := T.len
    have := T.top
    omega
theorem TreeOf.count {n : Int} {names : List Int} {us ts : List Tie} (T : TreeOf n names us ts) : (ts.length : Int) = n - 1 := by
  have := T.same.length_eq
  have := T.len
  have := T.pos
  omega
theorem rngI_succ' (k : Nat) : rngI 0 (k + 1) = rngI 0 k ++ [(k : Int)] := by
  unfold rngI
  rw [List.range_succ, List.map_append]
  simp
/-- one more put in between -/
theorem insert_perm {names : List Int} {j k : Nat} (h : names.Perm (rngI 0 k)) : (names.take j ++ [(k : Int)] ++ names.drop j).Perm (rngI 0 (k + 1)) := by
  rw [rngI_succ']
  refine List.Perm.trans ?_ (h.append_right [(k : Int)])
  have p : (names.take j ++ [(k : Int)] ++ names.drop j).Perm (names.take j ++ names.drop j ++ [(k : Int)]) := by
    rw [List.append_assoc, List.append_assoc]
    exact List.perm_append_comm.append_left _
  rw [List.take_append_drop] at p
  exact p
end Pw

/-! ## K43_law_tree -/
namespace Pw
open PySem L2 Evl
/-- a tree of n places is drawn -/
def spTree (K : PySem.W.Frag) : Sp := fun vs H Q _ => ∃ (S : List Addr) (b : Addr) (n : Int) (c : Nat), vs = [.ref b, .int n] ∧ b ∈ S ∧ (∀ s ∈ S, ∃ o, H s = some o) ∧ BoxAt H b c ∧ c + 1000 < 2 ^ 40 ∧ 1 ≤ n ∧ n ≤ 60 ∧
  ∀ v H' names us ts, TreeOf n names us ts → Dq K (mi H' S) v (webD n ts) → Bx b (c + 1000) H H' → Q v H'
section
variable {P : Program} {w : World} {K : PySem.W.Frag} {mg : Str → Option Value} {base : Heap}
theorem sc_law_tree : FnScope nm_law_tree ps_law_tree (defScope s_law_tree) := ⟨rfl, rfl, rfl, by decide +kernel, rfl, by decide +kernel, by decide +kernel⟩
theorem ok_law_tree {f : Addr} {fd : FuncData} (T : Txt mg) (Ds : Defs K mg) (D : Dfn K mg "_law_tree" s_law_tree ps_law_tree f fd) : FnOk P w K mg base CX0 3 f fd ps_law_tree (spTree K) := by
  obtain ⟨f_law_take, fd_law_take, D_law_take⟩ := Ds.d_law_take
  have G_law_take := ok_law_take (P := P) (w := w) (base := base) T Ds D_law_take
  obtain ⟨f_law_weight, fd_law_weight, D_law_weight⟩ := Ds.d_law_weight
  have G_law_weight := ok_law_weight (P := P) (w := w) (base := base) T Ds D_law_weight
  refine D.F.ok sc_law_tree (fun vs H Q E h => ?_) (fun cdv A0 outer s H vs Q E hr h => ?_)
  · obtain ⟨S, b, n, c, rfl, _⟩ := h
    rfl
  · obtain ⟨S, b, n, c, rfl, hbS, hSd, hb, hc, hn1, hn60, q⟩ := h
    have hr_law_take := hr.mono (show 1 ≤ 2 by decide)
    have hr_law_weight := hr.mono (show 2 ≤ 2 by decide)
    refine ⟨_, (pss_cons (ps_par (i := 2) (j := 3) (by rfl) sc_law_tree.nd rfl rfl (by decide) rfl rfl (pa_cons (pe_call G_law_take hr_law_take (by rfl) D_law_take.g D_law_take.F.kp D_law_take.b .nil pass0 (pa_cons (pv 0) (pa_cons pe_int pa_nil))) (pa_cons (pe_call G_law_take hr_law_take (by rfl) D_law_take.g D_law_take.F.kp D_law_take.b .nil pass0 (pa_cons (pv 0) (pa_cons pe_int pa_nil))) pa_nil)) (by rfl))
      (pss_cons (ps_set (i := 4) sc_law_tree.nd rfl (Or.inl rfl) (pe_lst (pa_cons pe_int pa_nil)))
      (pss_cons (ps_for PassesOwn.never rfl (pi_range2 (by rfl) T.m_range (pa_cons pe_int (pa_cons (pv 1) pa_nil))) (pg_name (i := 5) sc_law_tree.nd rfl (Or.inl rfl))
        (pss_one (ps_expr (pe_bm PySem.F.plainAttrs_list PySem.F.slot_list_insert PySem.F.type_list_insert mt_insert (pv 4) (pa_cons (pe_call G_law_take hr_law_take (by rfl) D_law_take.g D_law_take.F.kp D_law_take.b .nil pass0 (pa_cons (pv 0) (pa_cons (pe_op op_add (pv 5) pe_int) pa_nil))) (pa_cons (pv 5) pa_nil))))))
      (pss_cons (ps_set (i := 6) sc_law_tree.nd rfl (Or.inl rfl) (pe_lst pa_nil))
      (pss_cons (ps_for PassesOwn.never rfl (pi_range2 (by rfl) T.m_range (pa_cons pe_int (pa_cons (pv 1) pa_nil))) (pg_name (i := 5) sc_law_tree.nd rfl (Or.inl rfl))
        (pss_cons (ps_par (i := 7) (j := 8) (by rfl) sc_law_tree.nd rfl rfl (by decide) rfl rfl (pa_cons (pe_ix ix_list (pv 4) (pe_ix ix_list (pe_lst (pa_cons (pe_op op_sub (pv 5) pe_int) (pa_cons pe_int (pa_cons (pe_call G_law_take hr_law_take (by rfl) D_law_take.g D_law_take.F.kp D_law_take.b .nil pass0 (pa_cons (pv 0) (pa_cons (pv 5) pa_nil))) pa_nil)))) (pe_callB (call_min2 rfl) (by rfl) T.m_min (by decide +kernel) (pa_cons (pv 3) (pa_cons pe_int pa_nil))) (fun _ _ => rfl)) (fun _ _ => rfl)) (pa_cons (pe_ix ix_list (pv 4) (pv 5) (fun _ _ => rfl)) pa_nil)) (by rfl))
        (pss_one (ps_expr (pe_bm PySem.F.plainAttrs_list PySem.F.slot_list_append PySem.F.type_list_append mt_append (pv 6) (pa_cons (pe_tup (pa_cons (pe_callB (call_min2 rfl) (by rfl) T.m_min (by decide +kernel) (pa_cons (pv 7) (pa_cons (pv 8) pa_nil))) (pa_cons (pe_callB (call_max2 rfl) (by rfl) T.m_max (by decide +kernel) (pa_cons (pv 7) (pa_cons (pv 8) pa_nil))) (pa_cons (pe_call G_law_weight hr_law_weight (by rfl) D_law_weight.g D_law_weight.F.kp D_law_weight.b .nil pass0 (pa_cons (pv 0) (pa_cons (pv 2) pa_nil))) pa_nil)))) pa_nil))))))
      (pss_one (ps_ret (pe_tup (pa_cons (pv 1) (pa_cons (pe_callTy call_tuple_of (by rfl) T.m_tuple (by decide +kernel) (pa_cons (pe_callB (cr_sortedTI hr.units) (by rfl) T.m_sorted (by decide +kernel) (pa_cons (pv 6) pa_nil)) pa_nil)) pa_nil)))))))))), ?_⟩
    have w0 : Wd S (mi H S) H := ⟨mi_ex, fun s m => mi_no m, hSd⟩
    -- heavy, way
    refine ⟨_, rfl, b, 4, c, rfl, hb, by omega, by decide, by decide, fun heavy H1 v0 v1 hb1 => ⟨_, rfl, b, 4, _, rfl, hb1.at_, by omega, by decide, by decide, fun way H2 y0 y1 hb2 => ⟨_, _, rfl, ?_⟩⟩⟩
    have hb2 := hb1.trans hb2
    obtain ⟨w2, eB2⟩ := w0.bx hbS hb2
    -- names
    refine ⟨Nat.le_of_ble_eq_true rfl, fun A hA => ?_⟩
    have w3 := w2.own (o := .lst [.int 0]) hA
    have nAb : A ≠ b := (hb2.at_.ne hA).symm
    have hA0 : H A = none := hb2.free hA
    have hA3 : upd H2 A (.lst [.int 0]) A = some (.lst [.int 0]) := upd_same
    have hb3 : Bx b (c + 2) H (upd H2 A (.lst [.int 0])) := hb2.ext (Ex.new hA)
    generalize upd H2 A (.lst [.int 0]) = H3 at w3 hA3 hb3
    refine st_for (K := K) (rngI 1 (n - 1).toNat) PyData.int w3 (wk_rng2 (ea_cons ev_int (ea_cons (ev_var rfl (.int n)) ea_nil)) (by decide) (by omega)) fun B4 H4 e4 eB4 w4 => ⟨fun i σ' H' => ∃ B' x5, ∃ nm : List Int, Ex B4 B' ∧ Wd (A :: S) B' H' ∧ H' A = some (.lst (nm.map V.int)) ∧ nm.Perm (rngI 0 (i + 1)) ∧ Bx b (c + 2 + i) H H' ∧
        σ' = [some (.ref b), some (.int n), some (.int heavy), some (.int way), some (.ref A), x5, none, none, none],
      ⟨B4, none, [0], Ex.refl _, w4, e4 _ _ hA3, List.Perm.refl _, hb3.ext e4, rfl⟩, ?_, ?_⟩
    · rintro i k σ' H' hk ⟨B', x5, nm, eB', w', hA', hp, hb', rfl⟩
      have hil := (List.getElem?_eq_some_iff.mp hk).1
      rw [rngI_len] at hil
      have ek : k = 1 + (i : Int) := by
        rw [rngI_get hil] at hk
        exact (Option.some.inj hk).symm
      have hnl := hp.length_eq
      rw [rngI_len] at hnl
      refine ⟨A :: S, B', eB', w', fun x B5 H5 e5 eB5 w5 hx => ?_⟩
      cases hx
      have hb5 := hb'.ext e5
      refine ⟨_, rfl, .inl ⟨rfl, _, sq_of (e5 _ _ hA')⟩, _, rfl, _, rfl, _, _, rfl, rfl, b, _, _, rfl, hb5.at_, by omega, by omega, by omega, fun j H6 j0 j1 hb6 => ⟨_, rfl, A, nm.map V.int, j, .int k, rfl, rfl, hb6.at nAb (e5 _ _ hA'), sz_lt (by rw [List.length_map]; omega), j0, by omega, ?_⟩⟩
      obtain ⟨w6, eB6⟩ := w5.bx (List.mem_cons_of_mem _ hbS) hb6
      refine ⟨mi H6 (A :: S), _, nm.take j.toNat ++ [k] ++ nm.drop j.toNat, eB'.trans (eB5.trans eB6), w6.put List.mem_cons_self, ?_, ?_, ((hb5.trans hb6).own hA0 nAb.symm).mono (by omega), rfl⟩
      · rw [upd_same, List.map_append, List.map_append, List.map_take, List.map_drop]
        rfl
      · have e : k = ((i + 1 : Nat) : Int) := by omega
        rw [e]
        exact insert_perm hp
    · rintro σ' H' ⟨B', x5, nm, eB', w', hA', hp, hb', rfl⟩
      rw [rngI_len] at hp hb'
      have hnp : nm.Perm (rngI 0 n.toNat) := by
        rw [show (n - 1).toNat + 1 = n.toNat by omega] at hp
        exact hp
      have hnl := hnp.length_eq
      rw [rngI_len] at hnl
      refine ⟨⟨_, B', eB', w'⟩, ?_⟩
      have w5 := w'.give hA' (w0.nin hA0)
      have hnm : Dq K (upd B' A (.lst (nm.map V.int))) (.ref A) (.list (nm.map .int)) := .lst (sq_of upd_same) DqAll.ints
      generalize upd B' A (.lst (nm.map V.int)) = B5 at w5 hnm
      -- ties
      dsimp only
      refine st_seq ?_
      refine ⟨Nat.le_of_ble_eq_true rfl, fun U hU => ?_⟩
      have w6 := w5.own (o := .lst []) hU
      have nUb : U ≠ b := (hb'.at_.ne hU).symm
      have hU0 : H U = none := hb'.free hU
      have hU6 : upd H' U (.lst []) U = some (.lst []) := upd_same
      have hb6 : Bx b (c + 100) H (upd H' U (.lst [])) := (hb'.ext (Ex.new hU)).mono (by omega)
      generalize upd H' U (.lst []) = H6 at w6 hU6 hb6
      refine st_gn ?_
      dsimp only
      refine st_seq ?_
      refine st_for (K := K) (rngI 1 (n - 1).toNat) PyData.int w6 (wk_rng2 (ea_cons ev_int (ea_cons (ev_var rfl (.int n)) ea_nil)) (by decide) (by omega)) fun B7 H7 e7 eB7 w7 => ⟨fun i σ' H' => ∃ B' us xs x5 x7 x8, Ex B7 B' ∧ Wd (U :: S) B' H' ∧ H' U = some (.lst xs) ∧ DqAll K B' xs (us.map tieD) ∧ us.length = i ∧ Grown nm us ∧ Bx b (c + 100 + 3 * i) H H' ∧
          σ' = [some (.ref b), some (.int n), some (.int heavy), some (.int way), some (.ref A), x5, some (.ref U), x7, x8],
        ⟨B7, [], [], _, _, _, Ex.refl _, w7, e7 _ _ hU6, .nil, rfl, Grown.nil _, hb6.ext e7, rfl⟩, ?_, ?_⟩
      · rintro i k σ' H8 hk ⟨B8, us, xs, x5', x7, x8, eB8, w8, hU8, hxs, hul, hg, hb8, rfl⟩
        have hil := (List.getElem?_eq_some_iff.mp hk).1
        rw [rngI_len] at hil
        have ek : k = 1 + (i : Int) := by
          rw [rngI_get hil] at hk
          exact (Option.some.inj hk).symm
        refine ⟨U :: S, B8, eB8, w8, fun x B9 H9 e9 eB9 w9 hx => ?_⟩
        cases hx
        have hbU : b ∈ U :: S := List.mem_cons_of_mem _ hbS
        have hb9 := hb8.ext e9
        -- the place ahead
        refine ⟨_, rfl, _, rfl, _, _, rfl, rfl, _, rfl, _, rfl, b, k, _, rfl, hb9.at_, by omega, by omega, by omega, fun o H10 o0 o1 hb10 => ?_⟩
        refine ⟨Nat.le_of_ble_eq_true rfl, fun L hL => ?_⟩
        obtain ⟨w10, eB10⟩ := w9.bx hbU hb10
        have hL11 : upd H10 L (.lst [.int (k - 1), .int 0, .int o]) L = some (.lst [.int (k - 1), .int 0, .int o]) := upd_same
        have w11 := w10.ext (Ex.new (o := .lst [.int (k - 1), .int 0, .int o]) hL)
        have hb11 := (hb9.trans hb10).ext (Ex.new (o := .lst [.int (k - 1), .int 0, .int o]) hL)
        have hU11 : upd H10 L (.lst [.int (k - 1), .int 0, .int o]) U = some (.lst xs) := (Ex.new hL) _ _ (hb10.at nUb (e9 _ _ hU8))
        generalize upd H10 L (.lst [.int (k - 1), .int 0, .int o]) = H11 at hL11 w11 hb11 hU11 ⊢
        have hnm11 := Dq.mono (eB7.trans (eB8.trans (eB9.trans eB10))) hnm
        obtain ⟨p, hat, hp0⟩ : ∃ p : Nat, atI [V.int (k - 1), .int 0, .int o] (if (2 : Int) < way then 2 else way) = some (.int (p : Int)) ∧ p ≤ i := by
          obtain rfl | rfl | hw2 : way = 0 ∨ way = 1 ∨ 2 ≤ way := by omega
          · exact ⟨i, by rw [show (i : Int) = k - 1 by omega]; rfl, Nat.le_refl _⟩
          · exact ⟨0, rfl, Nat.zero_le _⟩
          · refine ⟨o.toNat, ?_, by omega⟩
            rw [show ((o.toNat : Nat) : Int) = o by omega, show (if (2 : Int) < way then (2 : Int) else way) = 2 by split <;> omega]
            rfl
        refine ⟨_, rfl, _, _, rfl, ?_⟩
        refine ⟨L, _, _, .int (p : Int), rfl, rfl, sq_of hL11, hat, ?_⟩
        obtain ⟨a, ha⟩ : ∃ a, nm[p]? = some a := ⟨_, List.getElem?_eq_getElem (by omega)⟩
        obtain ⟨a2, ha2⟩ : ∃ a, nm[i + 1]? = some a := ⟨_, List.getElem?_eq_getElem (by omega)⟩
        have hsq : SqL K H11 A (nm.map V.int) := by
          cases hnm11 with
          | lst hs hd =>
            rw [← DqAll.ints_eq hd]
            exact ex_l w11.ex hs
        refine ⟨A, _, (p : Int), .int a, rfl, rfl, hsq, atI_at (by omega) (by rw [List.getElem?_map, show (p : Int).toNat = p by omega, ha]; rfl), ?_⟩
        refine ⟨_, rfl, _, rfl, A, _, k, .int a2, rfl, rfl, hsq, atI_at (by omega) (by rw [List.getElem?_map, show k.toNat = i + 1 by omega, ha2]; rfl), ?_⟩
        refine ⟨_, _, rfl, ?_⟩
        have hb13 := hb11
        have hU13 := hU11
        have w13 := w11
        have eB12 := Ex.refl (mi H10 (U :: S))
        have eB13 := Ex.refl (mi H10 (U :: S))
        refine ⟨_, rfl, .inl ⟨rfl, _, sq_of hU13⟩, _, rfl, _, rfl, _, _, rfl, _, rfl, _, rfl, _, _, rfl, _, rfl, _, rfl, b, heavy, _, rfl, hb13.at_, by omega, by omega, by omega, fun wt H14 g1 g2 hb14 => ⟨Nat.le_of_ble_eq_true rfl, fun r hr14 => ?_⟩⟩
        obtain ⟨w14, eB14⟩ := w13.bx hbU hb14
        have hU14 := hb14.at nUb hU13
        have w15 := w14.new (o := .tup [.int (if a2 < a then a2 else a), .int (if a2 > a then a2 else a), .int wt]) hr14
        have eN := w14.newE (o := .tup [.int (if a2 < a then a2 else a), .int (if a2 > a then a2 else a), .int wt]) hr14
        have hxl := DqAll.length hxs
        rw [List.length_map] at hxl
        refine ⟨U, xs, .ref r, rfl, rfl, (Ex.new hr14) _ _ hU14, sz_lt (by omega), ?_⟩
        have eAll := eB9.trans (eB10.trans (eB12.trans (eB13.trans (eB14.trans eN))))
        refine ⟨_, us ++ [mm a a2 wt], _, _, _, _, eB8.trans eAll, w15.put List.mem_cons_self, upd_same, ?_, by rw [List.length_append, hul]; rfl, hg.snoc (p := p) (by omega) ha (by rw [hul]; exact ha2) g1 g2, ?_, rfl⟩
        · rw [List.map_append]
          exact DqAll.snoc (DqAll.mono eAll hxs) (.tup upd_same (.cons (.int _) (.cons (.int _) (.cons (.int _) .nil))))
        · exact (((hb13.trans hb14).new hr14).own hU0 nUb.symm).mono (by omega)
      · rintro σ' H8 ⟨B8, us, xs, x5', x7, x8, eB8, w8, hU8, hxs, hul, hg, hb8, rfl⟩
        rw [rngI_len] at hul hb8
        refine ⟨⟨_, B8, eB8, w8⟩, ?_⟩
        have w9 := w8.give hU8 (w0.nin hU0)
        have hUd : Dq K (upd B8 U (.lst xs)) (.ref U) (.list (us.map tieD)) := .lst (sq_of upd_same) (DqAll.mono w8.giveE hxs)
        obtain ⟨ls, hs⟩ := sorts_ex (us.map tieL)
        obtain ⟨ts, hp', rfl⟩ := sorts_ties hs.1
        have ed : (us.map tieL).map tupI = us.map tieD := by rw [List.map_map]; rfl
        have ed2 : (ts.map tieL).map tupI = ts.map tieD := by rw [List.map_map]; rfl
        have hT : TreeOf n nm us ts := ⟨hn1, hn60, hnp, by omega, hg, hp', hs.2⟩
        refine st_ret w9 (ev_tup (ea_cons (ev_var rfl (.int n)) (ea_cons (ev_tuple (t := false) ((ev_sortsTI (ks := us.map tieL) (by rw [ed]; exact ev_var rfl hUd) (fun k hk => ?ne) hs).imp fun v B' h => by rw [← ed2]; exact h.dq)) ea_nil)) (Nat.le_of_ble_eq_true rfl)) fun v B9 H9 e9 eB9 w9' r => q v H9 nm us ts hT (Dq.mono (ex_mi w9'.ex w9'.no) r) ((hb8.ext e9).mono (by omega))
        obtain ⟨t, _, rfl⟩ := List.mem_map.mp hk
        exact List.cons_ne_nil _ _
end
end Pw

/-! ## PwUpd -/
namespace Pw
open PySem L2 Evl
/-! ### hashes of pairs of small numbers are apart -/
def hp (a b : Int) : Int := reduceHash (Builtin.Tuple.tupleHashOf [hashInt a, hashInt b])
theorem hp_eq {P : Program} {w : World} (a b : Int) : tupleKeyHash (mixKind P w) (kPair a b) = hp a b := rfl
def dom30 : List (Int × Int) := (List.range 30).flatMap fun (b : Nat) => (List.range b).map fun (a : Nat) => (Int.ofNat a, Int.ofNat b)
theorem hp_nodup : (dom30.map fun p => hp p.1 p.2).Nodup := by decide +kernel
theorem dom30_mem {a b : Int} (h0 : 0 ≤ a) (h1 : a < b) (h2 : b < 30) : (a, b) ∈ dom30 := by
  unfold dom30
  rw [List.mem_flatMap]
  refine ⟨b.toNat, List.mem_range.mpr (by omega), List.mem_map.mpr ⟨a.toNat, List.mem_range.mpr (by omega), ?_⟩⟩
  show (((a.toNat : Nat) : Int), ((b.toNat : Nat) : Int)) = (a, b)
  rw [show ((a.toNat : Nat) : Int) = a by omega, show ((b.toNat : Nat) : Int) = b by omega]
theorem inj_of_nodup {α β : Type} {f : α → β} : ∀ {l : List α}, (l.map f).Nodup → ∀ {x y : α}, x ∈ l → y ∈ l → f x = f y → x = y
  | [], _, _, _, hx, _, _ => by cases hx
  | a :: r, h, x, y, hx, hy, e => by
    rw [List.map_cons, List.nodup_cons] at h
    rcases List.mem_cons.mp hx with ex | hx'
    · rcases List.mem_cons.mp hy with ey | hy'
      · rw [ex, ey]
      · exact absurd (List.mem_map.mpr ⟨y, hy', by rw [← e, ex]⟩) h.1
    · rcases List.mem_cons.mp hy with ey | hy'
      · exact absurd (List.mem_map.mpr ⟨x, hx', by rw [e, ey]⟩) h.1
      · exact inj_of_nodup h.2 hx' hy' e
theorem nodup_inj {α β : Type} {f : α → β} : ∀ {l : List α}, l.Nodup → (∀ x ∈ l, ∀ y ∈ l, f x = f y → x = y) → (l.map f).Nodup
  | [], _, _ => List.nodup_nil
  | a :: r, h, i => by
    rw [List.nodup_cons] at h
    rw [List.map_cons, List.nodup_cons]
    refine ⟨fun m => ?_, nodup_inj h.2 fun x hx y hy => i x (List.mem_cons_of_mem _ hx) y (List.mem_cons_of_mem _ hy)⟩
    obtain ⟨x, hx, e⟩ := List.mem_map.mp m
    exact h.1 (i x (List.mem_cons_of_mem _ hx) a List.mem_cons_self e ▸ hx)
/-- dicts whose keys are pairs of small numbers, the lesser one first -/
structure Small (kvs : List (List Key × V)) : Prop where
  key : ∀ p ∈ kvs, ∃ a b : Int, p.1 = kPair a b ∧ 0 ≤ a ∧ a < b ∧ b < 30
  nodup : (kvs.map (·.1)).Nodup
theorem Small.nil : Small [] := ⟨(fun p h => by cases h), List.nodup_nil⟩
theorem Small.put {kvs : List (List Key × V)} (h : Small kvs) {a b : Int} {v : V} (h0 : 0 ≤ a) (h1 : a < b) (h2 : b < 30) : Small (putK kvs (kPair a b) v) :=
  ⟨fun p hp => (putK_mem hp).elim (h.key p) fun e => ⟨a, b, by rw [e], h0, h1, h2⟩, putK_keys h.nodup⟩
theorem Small.merge : ∀ {more kvs : List (List Key × V)}, Small kvs → (∀ p ∈ more, ∃ a b : Int, p.1 = kPair a b ∧ 0 ≤ a ∧ a < b ∧ b < 30) → Small (mergeT kvs more)
  | [], _, h, _ => h
  | p :: r, kvs, h, hm => by
    obtain ⟨a, b, e, h0, h1, h2⟩ := hm p List.mem_cons_self
    have h3 := h.put (v := p.2) h0 h1 h2
    rw [← e] at h3
    exact Small.merge (more := r) h3 fun q hq => hm q (List.mem_cons_of_mem _ hq)
theorem Small.apart {P : Program} {w : World} {kvs : List (List Key × V)} (h : Small kvs) : (kvs.map fun p => tupleKeyHash (mixKind P w) p.1).Nodup := by
  have e : (kvs.map fun p => tupleKeyHash (mixKind P w) p.1) = (kvs.map (·.1)).map fun k => tupleKeyHash (mixKind P w) k := by
    rw [List.map_map]
    rfl
  rw [e]
  refine nodup_inj h.nodup fun x hx y hy exy => ?_
  obtain ⟨p, hp', rfl⟩ := List.mem_map.mp hx
  obtain ⟨q, hq, rfl⟩ := List.mem_map.mp hy
  obtain ⟨a, b, e1, h0, h1, h2⟩ := h.key p hp'
  obtain ⟨c, d, e2, g0, g1, g2⟩ := h.key q hq
  show p.1 = q.1
  have exy' : tupleKeyHash (mixKind P w) p.1 = tupleKeyHash (mixKind P w) q.1 := exy
  rw [e1, e2, hp_eq, hp_eq] at exy'
  have e3 := inj_of_nodup hp_nodup (dom30_mem h0 h1 h2) (dom30_mem g0 g1 g2) exy'
  rw [e1, e2, (Prod.mk.injEq ..  ▸ e3 : a = c ∧ b = d).1, (Prod.mk.injEq .. ▸ e3 : a = c ∧ b = d).2]
theorem kt_map {H : Hp} {P : Program} {w : World} : ∀ {kvs : List (List Key × V)} {xs : List (List Key × Addr × Value)}, KT H kvs xs → (xs.map fun x => (tupleKind (mixKind P w)).hash x.1) = kvs.map fun p => tupleKeyHash (mixKind P w) p.1
  | _, _, .nil => rfl
  | _, _, .cons h t => by
    rw [List.map_cons, List.map_cons, kt_map t, ← h.1]
    rfl
theorem kt_all {H : Hp} : ∀ {kvs : List (List Key × V)} {xs : List (List Key × Addr × Value)}, KT H kvs xs → ∀ x ∈ xs, ∃ k : List Key, H x.2.1 = some (.tup (k.map kV))
  | _, _, .nil, x, hx => by cases hx
  | _, _, .cons h t, x, hx => by
    rcases List.mem_cons.mp hx with rfl | hx
    · exact ⟨_, h.2.1⟩
    · exact kt_all t x hx
section
variable {X : Cx}
/-- d.update(e), two dicts of tuples -/
theorem mt_updT (hu : X.A.units + 1 < cLine) : MtR X "dict.update" (fun x xs H Q => ∃ (d o : Addr) (kvs more : List (List Key × V)), x = .ref d ∧ xs = [.ref o] ∧ H d = some (.dT kvs) ∧ H o = some (.dT more) ∧ d ≠ o ∧ kvs.length + more.length ≤ sizeLine ∧
    (more.map fun p => tupleKeyHash (mixKind X.prog X.w) p.1).Nodup ∧ Q .non (upd H d (.dT (mergeT kvs more)))) := by
  intro pins s σ H x xs v us Q I rx rv h
  obtain ⟨d, o, kvs, more, rfl, rfl, hd, ho, hne, hsz, hap, q⟩ := h
  cases rx
  obtain ⟨u, rfl, ru⟩ := rv.one
  cases ru
  obtain ⟨z1, l1, vs, rel1, dd1⟩ := dt_of I.hok hd
  obtain ⟨z2, l2, ws, rel2, dd2⟩ := dt_of I.hok ho
  refine call_update_dictH (knd := tupleKind (mixKind X.prog X.w)) (tupleKind_room_in1 hu) hne l2 dd1 dd2 (.inr ⟨fun y hy => ?_, ?_⟩) (by rw [← Paired.length rel1, ← Paired.length rel2]; exact hsz) fun h' hd' ho' hs => ?_
  · obtain ⟨k, hk⟩ := kt_all rel2 y hy
    obtain ⟨its, r, pl, _⟩ := I.tuple (st_of hk)
    exact pl.typeIs
  · rw [kt_map rel2]
    exact hap
  · have hml : (mergeT kvs more).length ≤ sizeLine := Nat.le_trans (length_mergeT more kvs) hsz
    obtain ⟨q', es, ep, hq, h2, h3, h4, _, h5⟩ := hd'
    refine ⟨.non, upd H d (.dT (mergeT kvs more)), d_write I (by rw [hd]; exact True.intro) hs ⟨q', hq⟩ ⟨hml, l1, _, (KT.merge rel2 rel1).keeps fun c ys ec => ?_, q', es, ep, hq, h2, h3, h4, h5⟩, rfl, q⟩
    rw [upd_ne (ne_of ec hd (fun z => nomatch z))]
    exact ec
end
section
variable {K : PySem.W.Frag} {σ : L2.St} {B H : Hp} {S : List Addr} {te ta tb tl : TE} {D : Ends}
theorem lc_rng1 {g : TG} {tt : TT} {vs : List Nat} {Q : VK} (h : ta σ H fun x H1 => tLc (iRng1 (tCons (tC x) tNil)) g tt te vs σ H1 Q) : tLc (iRng1 (tCons ta tNil)) g tt te vs σ H Q := h
/-- dict([((a, b), ..), ..]): a dict of its own -/
theorem dtup_new {ks : List (Int × Int)} {f : Int × Int → PyData} (h : EvD K ta σ B (.list (ks.map fun k => .tuple [pairD k, f k]))) (w : Wd S B H) {Q : VK}
    (q : ∀ o H' more, Ex H H' → H o = none → H' o = some (.dT more) → more.length ≤ ks.length → (more.map (·.1)).Nodup → (∀ p ∈ more, ∃ k ∈ ks, p.1 = kPair k.1 k.2) → (∀ x y : Int, (valV more (kPair x y)).isSome = true ↔ (x, y) ∈ ks) → Q (.ref o) H') : tCB (rDictT K) (tCons ta tNil) σ H Q :=
  (ea_cons h ea_nil).bind w fun vs B1 H1 e1 eB1 w1 rs => by
    cases rs with
    | cons r1 r2 =>
    cases r2
    cases r1 with
    | @lst a xs _ hs hd =>
    obtain ⟨ts, rfl, ht, hk⟩ := pairs_tups hd
    have e : (ts.map ((fun x => x.1) ∘ kvT)) = ks.map fun k => kPair k.1 k.2 := hk
    have hsub : ∀ (l : List (List Key × V)) (acc : List (List Key × V)) (p : List Key × V), p ∈ mergeT acc l → p.1 ∈ acc.map (·.1) ∨ p.1 ∈ l.map (·.1) := by
      intro l
      induction l with
      | nil => exact fun acc p hp => .inl (List.mem_map.mpr ⟨p, hp, rfl⟩)
      | cons y r ih =>
        intro acc p hp
        rcases ih (putK acc y.1 y.2) p hp with h | h
        · obtain ⟨z, hz, ez⟩ := List.mem_map.mp h
          rcases putK_mem hz with hz | hz
          · exact .inl (List.mem_map.mpr ⟨z, hz, ez⟩)
          · exact .inr (by rw [← ez, hz]; exact List.mem_cons_self)
        · exact .inr (List.mem_cons_of_mem _ h)
    have hnd : ∀ (l acc : List (List Key × V)), (acc.map (·.1)).Nodup → ((mergeT acc l).map (·.1)).Nodup := by
      intro l
      induction l with
      | nil => exact fun acc h => h
      | cons y r ih => exact fun acc h => ih (putK acc y.1 y.2) (putK_keys h)
    refine ⟨a, ts, rfl, ex_l w1.ex hs, fun t m => ⟨st_of (w1.ex _ _ (ht t m).1), w1.ex _ _ (ht t m).2⟩, fun p hp => q p _ _ (e1.trans (Ex.new hp)) (fresh_back e1 hp) upd_same ?_ (hnd _ _ List.nodup_nil) (fun x hx => ?_) fun x y => ?_⟩
    · have h1 := length_mergeT (ts.map kvT) []
      have h2 := congrArg List.length hk
      rw [List.length_map, List.length_map] at h2
      rw [List.length_nil, List.length_map] at h1
      omega
    · rcases hsub _ _ x hx with h | h
      · cases h
      · rw [List.map_map, e] at h
        obtain ⟨k, hk2, ek⟩ := List.mem_map.mp h
        exact ⟨k, hk2, ek.symm⟩
    · rw [mergeT_iff, List.map_map, e, valV_nil]
      constructor
      · rintro (h | h)
        · cases h
        · exact mem_kPair.mp h
      · exact fun h => .inr (mem_kPair.mpr h)
end
/-! ### rising pairs -/
def pltP (p q : Int × Int) : Prop := p.1 < q.1 ∨ p.1 = q.1 ∧ p.2 < q.2
theorem rising_eq : ∀ {l m : List (Int × Int)}, l.Pairwise pltP → m.Pairwise pltP → (∀ x, x ∈ l ↔ x ∈ m) → l = m
  | [], [], _, _, _ => rfl
  | [], b :: m, _, _, h => by cases (h b).mpr List.mem_cons_self
  | a :: l, [], _, _, h => by cases (h a).mp List.mem_cons_self
  | a :: l, b :: m, h1, h2, h => by
    rw [List.pairwise_cons] at h1 h2
    have irr : ∀ {p q : Int × Int}, pltP p q → pltP q p → False := fun {p q} x y => by
      unfold pltP at x y
      omega
    have e : a = b := by
      rcases List.mem_cons.mp ((h a).mp List.mem_cons_self) with e | e
      · exact e
      · rcases List.mem_cons.mp ((h b).mpr List.mem_cons_self) with e' | e'
        · exact e'.symm
        · exact (irr (h2.1 a e) (h1.1 b e')).elim
    subst e
    congr 1
    refine rising_eq h1.2 h2.2 fun x => ?_
    constructor
    · intro hx
      rcases List.mem_cons.mp ((h x).mp (List.mem_cons_of_mem _ hx)) with e | e
      · subst e
        exact (irr (h1.1 x hx) (h1.1 x hx)).elim
      · exact e
    · intro hx
      rcases List.mem_cons.mp ((h x).mpr (List.mem_cons_of_mem _ hx)) with e | e
      · subst e
        exact (irr (h2.1 x hx) (h2.1 x hx)).elim
      · exact e
end Pw

/-! ## PwDic -/
namespace Pw
open PySem L2 Evl

/-! ### t + u, t[lo:hi] of any tuples -/
section
variable {K : PySem.W.Frag} {σ : L2.St} {B H : Hp} {S : List Addr} {ta tb td ty te : TE} {ds es : List PyData} {d : PyData} {D : Ends}
theorem ev_catA (ha : EvD K ta σ B (.tuple ds)) (hb : EvD K tb σ B (.tuple es)) (hl : ds.length + es.length ≤ 100000) : EvD K (tOp (rCatA K) ta tb) σ B (.tuple (ds ++ es)) :=
  evR_of (fun S H w Q q => ha.bind w fun x B1 H1 e1 eB1 w1 rx => (hb.mono eB1).bind w1 fun y B2 H2 e2 eB2 w2 ry => by
    cases rx with
    | @tup a xs _ ha1 ha2 =>
    cases ry with
    | @tup b ys _ hb1 hb2 =>
    have hxl := DqAll.length ha2
    have hyl := DqAll.length hb2
    refine ⟨a, b, xs, ys, rfl, rfl, st_of (w2.ex _ _ (eB2 _ _ ha1)), st_of (w2.ex _ _ hb1), sz_of (by omega), fun z => ?_, fun _ z => ?_, fun _ _ p hp => ?_⟩
    · subst z
      cases ha2
      exact q _ B2 H2 (e1.trans e2) (eB1.trans eB2) w2 (.tup hb1 hb2)
    · subst z
      cases hb2
      rw [List.append_nil] at q
      exact q _ B2 H2 (e1.trans e2) (eB1.trans eB2) w2 (.tup (eB2 _ _ ha1) (DqAll.mono eB2 ha2))
    · exact q (.ref p) _ _ ((e1.trans e2).trans (Ex.new hp)) ((eB1.trans eB2).trans (w2.newE (o := .tup (xs ++ ys)) hp)) (w2.new hp) (.tup upd_same (DqAll.app (DqAll.mono (eB2.trans (w2.newE hp)) ha2) (DqAll.mono (w2.newE hp) hb2)))) stays_dp
theorem cutA_whole {α : Type} {xs : List α} {lo hi : Option Int} (h : HT.sIx xs.length 0 lo = 0 ∧ HT.sIx xs.length xs.length hi = xs.length) : cutA xs lo hi = xs := by
  unfold cutA
  rw [h.1, h.2, Nat.sub_zero]
  show (xs.drop 0).take xs.length = xs
  rw [List.drop_zero, List.take_length]
theorem ev_slA {tl th : TO} {lo hi : Option Int} (ha : EvD K ta σ B (.tuple ds)) (hl : EvP tl σ B lo) (hh : EvP th σ B hi) : EvD K (tSl (rSlA K) ta tl th) σ B (.tuple (cutA ds lo hi)) :=
  evR_of (fun S H w Q q => ha.bind w fun x B1 H1 e1 eB1 w1 rx => by
    cases rx with
    | @tup a xs _ hs hd =>
    refine hl.mono eB1 S H1 w1 _ fun H2 e2 => (hh.mono eB1) S H2 (w1.ext e2) _ fun H3 e3 => ⟨a, xs, rfl, st_of (e3 _ _ (e2 _ _ (w1.ex _ _ hs))), fun hn => ?_, fun hn p hp => ?_⟩
    · rw [DqAll.length hd] at hn
      have w3 := w1.ext (e2.trans e3)
      rw [cutA_whole hn] at q
      exact q (.ref a) _ _ (e1.trans (e2.trans e3)) eB1 w3 (.tup hs hd)
    · have w3 := w1.ext (e2.trans e3)
      exact q (.ref p) _ _ (e1.trans ((e2.trans e3).trans (Ex.new hp))) (eB1.trans (w3.newE (o := .tup (cutV xs lo hi)) hp)) (w3.new hp) (.tup upd_same (DqAll.mono (w3.newE hp) (dqAll_cut hd lo hi)))) stays_dp

/-! ### dicts of pairs with data as values -/
structure KvIn (K : PySem.W.Frag) (B : Hp) {α : Type} (l : List α) (key : α → Int × Int) (val : α → PyData) (kvs : List (List Key × V)) : Prop where
  of : ∀ p ∈ kvs, ∃ a ∈ l, p.1 = kPair (key a).1 (key a).2 ∧ Dq K B p.2 (val a)
  nd : (kvs.map (·.1)).Nodup
  all : ∀ a ∈ l, kPair (key a).1 (key a).2 ∈ kvs.map (·.1)
  few : kvs.length ≤ l.length
theorem putK_has {κ : Type} [DecidableEq κ] {kvs : List (κ × V)} {k k' : κ} {v : V} : k' ∈ (putK kvs k v).map (·.1) ↔ k' = k ∨ k' ∈ kvs.map (·.1) := by
  rw [← isSome_iff, ← isSome_iff, valV_put]
  by_cases h : k' = k
  · rw [if_pos h]
    simp [h]
  · rw [if_neg h]
    simp [h]
variable {α : Type} {l : List α} {key : α → Int × Int} {val : α → PyData} {kvs : List (List Key × V)}
theorem KvIn.mono {B' : Hp} (h : KvIn K B l key val kvs) (e : Ex B B') : KvIn K B' l key val kvs := ⟨fun p hp => by
  obtain ⟨a, h1, h2, h3⟩ := h.of p hp
  exact ⟨a, h1, h2, Dq.mono e h3⟩, h.nd, h.all, h.few⟩
theorem KvIn.nil : KvIn K B ([] : List α) key val [] := ⟨(fun p h => by cases h), List.nodup_nil, (fun a h => by cases h), Nat.le_refl _⟩
theorem KvIn.put {a : α} {v : V} (h : KvIn K B l key val kvs) (hv : Dq K B v (val a)) : KvIn K B (l ++ [a]) key val (putK kvs (kPair (key a).1 (key a).2) v) := by
  refine ⟨fun p hp => ?_, putK_keys h.nd, fun x hx => ?_, ?_⟩
  · rcases putK_mem hp with hp | rfl
    · obtain ⟨x, h1, h2, h3⟩ := h.of p hp
      exact ⟨x, List.mem_append_left _ h1, h2, h3⟩
    · exact ⟨a, List.mem_append_right _ (List.mem_singleton.mpr rfl), rfl, hv⟩
  · rw [putK_has]
    rcases List.mem_append.mp hx with hx | hx
    · exact .inr (h.all x hx)
    · rw [List.mem_singleton.mp hx]
      exact .inl rfl
  · have h1 := length_putK kvs (kPair (key a).1 (key a).2) v
    have h2 := h.few
    rw [List.length_append]
    show _ ≤ l.length + 1
    omega
theorem valV_some {κ : Type} [DecidableEq κ] : ∀ {kvs : List (κ × V)} {k : κ}, k ∈ kvs.map (·.1) → ∃ v, valV kvs k = some v ∧ (k, v) ∈ kvs
  | [], _, h => by cases h
  | p :: r, k, h => by
    by_cases e : p.1 = k
    · subst e
      exact ⟨p.2, valV_pos rfl, List.mem_cons_self⟩
    · rw [List.map_cons] at h
      rcases List.mem_cons.mp h with h | h
      · exact absurd h.symm e
      · obtain ⟨v, h1, h2⟩ := valV_some (kvs := r) h
        exact ⟨v, by rw [valV_neg e]; exact h1, List.mem_cons_of_mem _ h2⟩
theorem KvIn.get {a : α} (h : KvIn K B l key val kvs) (ha : a ∈ l) : ∃ v b, valV kvs (kPair (key a).1 (key a).2) = some v ∧ b ∈ l ∧ key b = key a ∧ Dq K B v (val b) := by
  obtain ⟨v, h1, h2⟩ := valV_some (h.all a ha)
  obtain ⟨b, h3, h4, h5⟩ := h.of _ h2
  obtain ⟨e1, e2⟩ := kPair_inj h4
  exact ⟨v, b, h1, h3, Prod.ext e1.symm e2.symm, h5⟩
theorem KvIn.keys : ∀ {kvs : List (List Key × V)}, (∀ p ∈ kvs, ∃ a ∈ l, p.1 = kPair (key a).1 (key a).2 ∧ Dq K B p.2 (val a)) → ∃ ks : List (Int × Int), kvs.map (·.1) = (ks.map fun k => [k.1, k.2]).map (·.map Sum.inl) ∧ ks.length = kvs.length ∧ ∀ k ∈ ks, ∃ a ∈ l, key a = k
  | [], _ => ⟨[], rfl, rfl, fun k h => by cases h⟩
  | p :: r, h => by
    obtain ⟨ks, h1, h2, h3⟩ := KvIn.keys (kvs := r) fun q hq => h q (List.mem_cons_of_mem _ hq)
    obtain ⟨a, ha, e, _⟩ := h p List.mem_cons_self
    refine ⟨key a :: ks, ?_, by rw [List.length_cons, List.length_cons, h2], fun k hk => ?_⟩
    · rw [List.map_cons, List.map_cons, List.map_cons, h1, e]
      rfl
    · rcases List.mem_cons.mp hk with rfl | hk
      · exact ⟨a, ha, rfl⟩
      · exact h3 k hk
theorem pairs_tupsV : ∀ {l : List α} {xs : List V}, DqAll K B xs (l.map fun a => .tuple [pairD (key a), val a]) →
    ∃ ts : List PairT, xs = ts.map (fun t => V.ref t.1) ∧ (∀ t ∈ ts, B t.1 = some (.tup [.ref t.2.1, t.2.2.2]) ∧ B t.2.1 = some (.tup (t.2.2.1.map V.int))) ∧ ∀ (acc : List (List Key × V)) (done : List α), KvIn K B done key val acc → KvIn K B (done ++ l) key val (mergeT acc (ts.map kvT))
  | [], _, h => by cases h; exact ⟨[], rfl, (fun t ht => by cases ht), fun acc done h => by rw [List.append_nil]; exact h⟩
  | a :: l, _, h => by
    cases h with
    | cons h1 h2 =>
    obtain ⟨ts, rfl, h3, h4⟩ := pairs_tupsV h2
    cases h1 with
    | @tup c ys _ hs hd =>
    cases hd with
    | @cons y1 _ _ _ q1 t =>
    cases t with
    | @cons y2 _ _ _ q2 t =>
    cases t
    cases q1 with
    | @tup b zs _ hb hz =>
    have ez := DqAll.ints_eq (ns := [(key a).1, (key a).2]) hz
    subst ez
    refine ⟨(c, b, [(key a).1, (key a).2], y2) :: ts, rfl, fun t ht => ?_, fun acc done hK => ?_⟩
    · rcases List.mem_cons.mp ht with rfl | ht
      · exact ⟨hs, hb⟩
      · exact h3 t ht
    · have g := h4 _ _ (hK.put (a := a) q2)
      rw [List.append_assoc] at g
      exact g
/-- dict([((a, b), x), ..]): a dict of its own -/
theorem dtupV_new (h : EvD K ta σ B (.list (l.map fun a => .tuple [pairD (key a), val a]))) (w : Wd S B H) {Q : VK}
    (q : ∀ o B' H' kvs, Ex H H' → Ex B B' → H o = none → H' o = some (.dT kvs) → Wd (o :: S) B' H' → KvIn K B' l key val kvs → Q (.ref o) H') : tCB (rDictT K) (tCons ta tNil) σ H Q :=
  (ea_cons h ea_nil).bind w fun vs B1 H1 e1 eB1 w1 rs => by
    cases rs with
    | cons r1 r2 =>
    cases r2
    cases r1 with
    | @lst a xs _ hs hd =>
    obtain ⟨ts, rfl, ht, hk⟩ := pairs_tupsV hd
    refine ⟨a, ts, rfl, ex_l w1.ex hs, fun t m => ⟨st_of (w1.ex _ _ (ht t m).1), w1.ex _ _ (ht t m).2⟩, fun p hp => q p B1 _ _ (e1.trans (Ex.new hp)) eB1 (fresh_back e1 hp) upd_same (w1.own hp) ?_⟩
    have g := hk [] [] KvIn.nil
    rw [List.nil_append] at g
    exact g
/-- such a dict, told and staying -/
def DicAt (kvs : List (List Key × V)) (v : V) (B : Hp) : Prop := ∃ d, v = .ref d ∧ B d = some (.dT kvs)
theorem stays_dic : Stays (DicAt kvs) := fun v B B' e ⟨d, h1, h2⟩ => ⟨d, h1, e _ _ h2⟩
def rSortDT (K : PySem.W.Frag) : List V → Hp → VK → Prop := fun vs H Q => ∃ (a : Addr) (kvs : List (List Key × V)) (ks : List (List Int)), vs = [V.ref a] ∧ Rd H a (.dT kvs) ∧ kvs.map (·.1) = ks.map (·.map Sum.inl) ∧ (∀ k ∈ ks, k ≠ []) ∧
    ∀ (bs : List (Addr × List Int)) p, bs.map (·.2) = ks → (∀ b ∈ bs, H b.1 = some (.tup (b.2.map V.int))) → H p = none → Q (.ref p) (upd H p (.lst ((bs.mergeSort leTI).map fun b => V.ref b.1)))
theorem ev_dgetT {k : Int × Int} {v : V} (hd : EvR td σ B (DicAt kvs)) (hk : EvD K ty σ B (pairD k)) (hv : valV kvs (kPair k.1 k.2) = some v) (hq : Dq K B v d) : EvD K (tDGet td ty) σ B d :=
  evR_of (fun S H w Q q => hd.bind w fun x B1 H1 e1 eB1 w1 ⟨a, ex, ha⟩ => (hk.mono eB1).bind w1 fun y B2 H2 e2 eB2 w2 ry => by
    cases ry with
    | @tup b zs _ hb hz =>
    have ez := DqAll.ints_eq (ns := [k.1, k.2]) hz
    subst ez
    subst ex
    refine ⟨a, v, rfl, ?_, q v B2 H2 (e1.trans e2) (eB1.trans eB2) w2 (Dq.mono (eB1.trans eB2) hq)⟩
    have g := DGet.t (H := H2) (a := a) (kvs := kvs) (k := kPair k.1 k.2) (b := b) (w2.ex _ _ (eB2 _ _ ha)) (w2.ex _ _ hb)
    rw [hv] at g
    exact g) stays_dp
theorem st_retL {tA : TA} (h : tA σ H fun xs H1 => xs.length ≤ sizeLine ∧ ∀ p, H1 p = none → D.rt (.ref p) (upd H1 p (.lst xs))) : tRet (tLst tA) D σ H := h
theorem ac {tA : TA} {Q : List V → Hp → Prop} (h : ta σ H fun x H1 => tA σ H1 fun xs H2 => Q (x :: xs) H2) : tCons ta tA σ H Q := h
theorem an {Q : List V → Hp → Prop} (h : Q [] H) : tNil σ H Q := h
theorem a1 {Q : List V → Hp → Prop} (h : ta σ H fun x H1 => Q [x] H1) : tCons ta tNil σ H Q := h
theorem cb1 {r : List V → Hp → VK → Prop} {Q : VK} (h : ta σ H fun x H1 => r [x] H1 Q) : tCB r (tCons ta tNil) σ H Q := h
/-- [d[k] for k in sorted(d)] -/
theorem lc_byKeys {i j : Nat} {vs : List Nat} {d : Addr} {kvs : List (List Key × V)} {ks : List (Int × Int)} {f : Int × Int → PyData} (hv : σ[i]? = some (some (.ref d))) (hw : ∀ x, wipe ((wipe σ vs).set j (some x)) vs = wipe σ vs)
    (hi : ∀ x, ((wipe σ vs).set j (some x))[i]? = some (some (.ref d))) (hj : ∀ x, ((wipe σ vs).set j (some x))[j]? = some (some x)) (w : Wd S B H) (hd : H d = some (.dT kvs)) (hks : kvs.map (·.1) = (ks.map fun k => [k.1, k.2]).map (·.map Sum.inl))
    (hval : ∀ k ∈ ks, ∃ v, valV kvs (kPair k.1 k.2) = some v ∧ Dq K B v (f k)) (hl : ks.length ≤ 40000) {Q : VK}
    (q : ∀ v B' H' (ms : List (Int × Int)), ms.Perm ks → (ms.map fun k : Int × Int => [k.1, k.2]).Pairwise (· ≤ ·) → Ex H H' → Ex B B' → Wd S B' H' → Dq K B' v (.list (ms.map f)) → Q v H') :
    tLc (iList K (tCB (rSortDT K) (tCons (tVar i) tNil))) (gName j) tYes (tDGet (tVar i) (tVar j)) vs σ H Q := by
  refine ⟨_, hv, d, kvs, _, rfl, .of hd, hks, fun k hk => ?_, fun bs L hbs hbt hL => ?_⟩
  · obtain ⟨k', _, rfl⟩ := List.mem_map.mp hk
    exact List.cons_ne_nil _ _
  have w1 := w.ext (Ex.new (o := .lst ((bs.mergeSort leTI).map fun b => V.ref b.1)) hL)
  have e1 : Ex H (upd H L (.lst ((bs.mergeSort leTI).map fun b => V.ref b.1))) := Ex.new hL
  refine ⟨L, rfl, ⟨_, sq_of upd_same⟩, fun D hD => ?_⟩
  have hL1 : upd H L (.lst ((bs.mergeSort leTI).map fun b => V.ref b.1)) L = some (.lst ((bs.mergeSort leTI).map fun b => V.ref b.1)) := upd_same
  generalize upd H L (.lst ((bs.mergeSort leTI).map fun b => V.ref b.1)) = H1 at w1 e1 hL1 hD ⊢
  let g : Addr × List Int → Int × Int := fun b => (b.2.getD 0 0, b.2.getD 1 0)
  have hb2 : ∀ b ∈ bs, ∃ k ∈ ks, b.2 = [k.1, k.2] := fun b hb => by
    have h1 : b.2 ∈ bs.map (·.2) := List.mem_map.mpr ⟨b, hb, rfl⟩
    rw [hbs] at h1
    obtain ⟨k, hk, e⟩ := List.mem_map.mp h1
    exact ⟨k, hk, e.symm⟩
  have hgk : bs.map g = ks := by
    have h1 := congrArg (List.map fun (x : List Int) => ((x.getD 0 0, x.getD 1 0) : Int × Int)) hbs
    rw [List.map_map, List.map_map] at h1
    refine h1.trans ((List.map_congr_left fun k _ => ?_).trans (List.map_id ks))
    rfl
  have hpm : ((bs.mergeSort leTI).map g).Perm ks := by
    rw [← hgk]
    exact (sortTI_perm bs).map g
  have hbl : bs.length = ks.length := by rw [← hgk, List.length_map]
  refine lc_list (K := K) (a := L) (xs := (bs.mergeSort leTI).map fun b => V.ref b.1) (fun n H' => Ex H1 H' ∧ ∃ B' acc, Ex B B' ∧ Wd (D :: S) B' H' ∧ H' D = some (.lst acc) ∧ DqAll K B' acc ((((bs.mergeSort leTI).map g).take n).map f))
    ⟨Ex.new hD, B, [], Ex.refl _, w1.own hD, upd_same, .nil⟩ (fun n H' _ h => sq_of (h.1 _ _ hL1)) ?_ ?_
  · rintro n x H2 hx ⟨e2, B2, acc, eB2, w2, hA, hdp⟩
    rw [List.getElem?_map] at hx
    obtain ⟨bb, hbb, rfl⟩ := Option.map_eq_some_iff.mp hx
    have hmem : bb ∈ bs := (sortTI_perm bs).mem_iff.mp (List.mem_of_getElem? hbb)
    obtain ⟨k, hk, ek⟩ := hb2 bb hmem
    obtain ⟨v, hv1, hv2⟩ := hval k hk
    have hbb2 : H2 bb.1 = some (.tup (bb.2.map V.int)) := e2 _ _ (e1 _ _ (hbt bb hmem))
    refine ⟨hw _, _, hi _, _, hj _, d, v, rfl, ?_, ?_⟩
    · have gg := DGet.t (H := H2) (a := d) (kvs := kvs) (k := kPair k.1 k.2) (b := bb.1) (e2 _ _ (e1 _ _ hd)) (by rw [hbb2, ek]; rfl)
      rw [hv1] at gg
      exact gg
    have hlen : acc.length ≤ 40000 := by
      rw [DqAll.length hdp, List.length_map, List.length_take, List.length_map, List.length_mergeSort]
      omega
    refine ⟨acc, hA, sz_lt (by omega), e2.mut hD, B2, acc ++ [v], eB2, w2.put List.mem_cons_self, upd_same, ?_⟩
    rw [List.take_add_one, List.map_append, List.getElem?_map, hbb]
    refine DqAll.snoc hdp ?_
    show Dq K B2 v (f (g bb))
    have eg : g bb = k := by
      show (bb.2.getD 0 0, bb.2.getD 1 0) = k
      rw [ek]
      rfl
    rw [eg]
    exact Dq.mono eB2 hv2
  · rintro H2 ⟨e2, B2, acc, eB2, w2, hA, hdp⟩
    have el : ((bs.mergeSort leTI).map fun b => V.ref b.1).length = ((bs.mergeSort leTI).map g).length := by rw [List.length_map, List.length_map]
    rw [el, List.take_length] at hdp
    refine q _ _ _ _ hpm ?_ (e1.trans e2) (eB2.trans w2.giveE) (w2.give hA (w1.nin hD)) (.lst (sq_of upd_same) (DqAll.mono w2.giveE hdp))
    rw [List.map_map, List.pairwise_map]
    refine (sortTI_le bs).imp_of_mem fun {b c} hb hc h => ?_
    obtain ⟨k1, _, z1⟩ := hb2 b ((sortTI_perm bs).mem_iff.mp hb)
    obtain ⟨k2, _, z2⟩ := hb2 c ((sortTI_perm bs).mem_iff.mp hc)
    show [b.2.getD 0 0, b.2.getD 1 0] ≤ [c.2.getD 0 0, c.2.getD 1 0]
    rw [z1, z2] at h ⊢
    exact h
end
end Pw

/-! ## PwXs -/
namespace Pw
open PySem L2 Evl
/-! ### tuples and sums of tuples of which a part draws -/
abbrev DP (K : PySem.W.Frag) (P : PyData → Prop) (v : V) (B : Hp) : Prop := ∃ d, P d ∧ Dq K B v d
theorem stays_DP {K : PySem.W.Frag} {P : PyData → Prop} : Stays (DP K P) := fun v B B' e ⟨d, h1, h2⟩ => ⟨d, h1, Dq.mono e h2⟩
section
variable {K : PySem.W.Frag} {σ : L2.St} {B H : Hp} {S : List Addr} {b : Addr} {k m c : Nat} {te ta tb : TE} {P P1 P2 : PyData → Prop} {d : PyData} {D : Ends}
theorem EvR.dp (h : EvD K te σ B d) : EvX S b 0 te σ B (DP K fun x => x = d) := (EvR.x h).imp fun v B' r => ⟨d, rfl, r⟩
theorem ex_tup1 (h : EvX S b k te σ B (DP K P)) : EvX S b k (tTup (tCons te tNil)) σ B (DP K fun x => ∃ d, P d ∧ x = .tuple [d]) :=
  evX_of (fun H c w hbS hB hl Q q => h.bind w hbS hB hl fun v B1 H1 x1 eB1 w1 hB1 ⟨d, hP, hd⟩ => ⟨Nat.le_of_ble_eq_true rfl, fun p hp =>
    q (.ref p) (upd B1 p (.tup [v])) _ (x1.trans (Xs.of (Ex.new hp))) (eB1.trans (w1.newE hp)) (w1.new hp) (hB1.ex (Ex.new hp)) ⟨_, ⟨d, hP, rfl⟩, .tup upd_same (.cons (Dq.mono (w1.newE hp) hd) .nil)⟩⟩) stays_DP
theorem ex_tup2 (h1 : EvX S b k ta σ B (DP K P1)) (h2 : EvX S b m tb σ B (DP K P2)) : EvX S b (k + m) (tTup (tCons ta (tCons tb tNil))) σ B (DP K fun x => ∃ d1 d2, P1 d1 ∧ P2 d2 ∧ x = .tuple [d1, d2]) :=
  evX_of (fun H c w hbS hB hl Q q => h1.bind w hbS hB (by omega) fun v B1 H1 x1 eB1 w1 hB1 ⟨d1, hP1, hd1⟩ => (h2.mono eB1).bind w1 hbS hB1 (by omega) fun u B2 H2 x2 eB2 w2 hB2 ⟨d2, hP2, hd2⟩ => ⟨Nat.le_of_ble_eq_true rfl, fun p hp =>
    q (.ref p) (upd B2 p (.tup [v, u])) _ ((x1.trans x2).trans (Xs.of (Ex.new hp))) ((eB1.trans eB2).trans (w2.newE hp)) (w2.new hp) ((hB2.ex (Ex.new hp)).mono (by omega)) ⟨_, ⟨d1, d2, hP1, hP2, rfl⟩, .tup upd_same (.cons (Dq.mono (eB2.trans (w2.newE hp)) hd1) (.cons (Dq.mono (w2.newE hp) hd2) .nil))⟩⟩) stays_DP
theorem ex_catA (h1 : EvX S b k ta σ B (DP K P1)) (h2 : EvX S b m tb σ B (DP K P2)) (hl : ∀ d1 d2, P1 d1 → P2 d2 → ∃ xs ys, d1 = .tuple xs ∧ d2 = .tuple ys ∧ xs.length + ys.length ≤ 100000) :
    EvX S b (k + m) (tOp (rCatA K) ta tb) σ B (DP K fun x => ∃ xs ys, P1 (.tuple xs) ∧ P2 (.tuple ys) ∧ x = .tuple (xs ++ ys)) :=
  evX_of (fun H c w hbS hB hlid Q q => h1.bind w hbS hB (by omega) fun v B1 H1 x1 eB1 w1 hB1 ⟨d1, hP1, hd1⟩ => (h2.mono eB1).bind w1 hbS hB1 (by omega) fun u B2 H2 x2 eB2 w2 hB2 ⟨d2, hP2, hd2⟩ => by
    obtain ⟨xs, ys, rfl, rfl, hlen⟩ := hl d1 d2 hP1 hP2
    have h3 : tOp (rCatA K) (tC v) (tC u) σ H2 Q := (ev_catA (K := K) (σ := σ) (ta := tC v) (tb := tC u) (ev_c (Dq.mono eB2 hd1)) (ev_c hd2) hlen).bind w2 fun r B3 H3 e3 eB3 w3 hr => q r B3 H3 ((x1.trans x2).trans (Xs.of e3)) (eB1.trans (eB2.trans eB3)) w3 ((hB2.ex e3).mono (by omega)) ⟨_, ⟨xs, ys, hP1, hP2, rfl⟩, hr⟩
    exact h3) stays_DP
theorem st_next (h : D.nx σ H) : tNext D σ H := h
theorem st_par {i j : Nat} (h : ta σ H fun x H1 => tb σ H1 fun y H2 => ∃ v w, [x, y] = [v, w] ∧ D.nx ((σ.set i (some v)).set j (some w)) H2) : tPar i j (tCons ta (tCons tb tNil)) D σ H := h
theorem ex_ret (h : EvX S b k te σ B (DP K P)) (w : Wd S B H) (hb : b ∈ S) (hB : BoxAt H b c) (hl : c + k ≤ lid) (q : ∀ v d H', P d → Xs [b] H H' → BoxAt H' b (c + k) → Dq K (mi H' S) v d → D.rt v H') : tRet te D σ H :=
  h.bind w hb hB hl fun v B1 H1 x1 eB1 w1 hB1 ⟨d, hP, hd⟩ => q v d H1 hP x1 hB1 (Dq.mono (ex_mi w1.ex w1.no) hd)
end
end Pw

/-! ## PwIter -/
namespace Pw
open PySem PySem.Spec PyProof.Rows L2 Evl

/-! ### zip over lists and tuples in any mix, enumerate over a list or a tuple -/
/-- the sequence at a: t says whether it is a tuple -/
def SqO (t : Bool) (K : PySem.W.Frag) (H : Hp) (a : Addr) (xs : List V) : Prop := match t with
  | true => SqT K H a xs
  | false => SqL K H a xs
def SeqH (t : Bool) (h : Heap) (a : Addr) (its : Array Value) : Prop := match t with
  | true => h.IsTuple a its
  | false => h.IsList a its
def IterH (t : Bool) (h : Heap) (i a : Addr) (k : Nat) : Prop := match t with
  | true => h.IsTupleIter i a k
  | false => h.IsListIter i a k
section
variable {X : Cx} {pins : List (Addr × Obj)} {σ : L2.St} {H : Hp} {s : Shared} {t : Bool} {a : Addr} {xs ys : List V}
theorem seqO (I : L2.Inv X pins σ H s) (h : SqO t X.K H a xs) : ∃ its : List Value, Vals xs its ∧ SeqH t s.heap a its.toArray ∧ a < s.heap.objs.size := by
  cases t with
  | true =>
    obtain ⟨its, rv, p, _⟩ := I.tuple h
    refine ⟨its, rv, p, ?_⟩
    obtain ⟨o, ho, _⟩ := id p
    exact Heap.lt_size ho
  | false =>
    obtain ⟨its, rv, p, _⟩ := I.list h
    exact ⟨its, rv, p.isList, p.lt⟩
theorem seqO_inj (I : L2.Inv X pins σ H s) (h : SqO t X.K H a xs) (g : SqO t X.K H a ys) : xs = ys := by
  cases t with
  | true => exact I.tuple_inj h g
  | false => exact I.list_inj h g
end
theorem iterH_at {t : Bool} {h h' : Heap} {i a : Addr} {k : Nat} (q : IterH t h i a k) (e : ∀ o, h.get? i = some o → h'.get? i = some o) : IterH t h' i a k := by
  cases t with
  | true => exact Heap.IsTupleIter.at q e
  | false => exact Heap.IsListIter.at q e
theorem iterH_obj {t : Bool} {h : Heap} {i a : Addr} {k : Nat} (q : IterH t h i a k) : ∃ o, h.get? i = some o ∧ ∀ v, o.data ≠ .cell v := by
  cases t with
  | true =>
    obtain ⟨o, e, _, d⟩ := (show h.IsTupleIter i a k from q)
    exact ⟨o, e, fun v z => by rw [d] at z; cases z⟩
  | false =>
    obtain ⟨o, e, _, d⟩ := (show h.IsListIter i a k from q)
    exact ⟨o, e, fun v z => by rw [d] at z; cases z⟩
theorem draws_of {prog : Program} {w : World} {A : Around} (t : Bool) (hh : A.handled = none) (i a : Addr) (ne : a ≠ i) (its : Array Value) :
    Draws prog w A i [i, a] its.size (fun k v => its[k]? = some v) (fun k h => IterH t h i a k ∧ SeqH t h a its) := by
  cases t with
  | true => exact Draws.tuple hh i a ne its
  | false => exact Draws.list hh i a ne its
/-- how iter(..) of such a sequence begins -/
theorem begins_of (t : Bool) (a : Addr) (its : Array Value) : ∃ o, Begins (.ref a) o (fun h => SeqH t h a its) ∧ ∀ h i, h.get? i = some o → IterH t h i a 0 := by
  cases t with
  | true => exact ⟨_, begins_tuple a its, fun h i e => ⟨_, e, rfl, rfl⟩⟩
  | false => exact ⟨_, begins_list a its, fun h i e => ⟨_, e, rfl, rfl⟩⟩

/-! #### zip -/
def ItzO (t u : Bool) (K : PySem.W.Frag) (a b : Addr) : It :=
  ⟨fun i H => ∃ (xs ys : List V) (x y : V), SqO t K H a xs ∧ SqO u K H b ys ∧ xs[i]? = some x ∧ ys[i]? = some y,
   fun i H v H' => ∃ T x y, v = .ref T ∧ H T = none ∧ H' = upd H T (.tup [x, y]) ∧ (∀ xs, SqO t K H a xs → xs[i]? = some x) ∧ ∀ ys, SqO u K H b ys → ys[i]? = some y,
   fun i H => ∃ xs ys : List V, SqO t K H a xs ∧ SqO u K H b ys ∧ (xs.length = i ∧ i ≤ ys.length ∨ ys.length = i ∧ i ≤ xs.length)⟩
theorem turnZ {P : Program} {w : World} {K : PySem.W.Frag} {elts : List Expr} {kk : Nat} {tpos : Pos} (t u : Bool) {a b z T1 T2 i1 i2 : Addr} (S : ZipSep2 z T1 T2 i1 i2 [i1, a] [i2, b]) (na : a ≠ i1) (nb : b ≠ i2) :
    Turn P w K (.Tuple elts kk tpos) (ItzO t u K a b) [z, T1, T2, i1, i2] z (fun i h => IsZip h z T1 T2 .none ∧ IsTupOf2 h T1 (.ref i1) (.ref i2) ∧ (∃ x y, IsTupOf2 h T2 x y) ∧ IterH t h i1 a i ∧ IterH u h i2 b i) := by
  have five : ∀ {c : Addr}, c ∈ [z, T1, T2, i1, i2] → c = z ∨ c = T1 ∨ c = T2 ∨ c = i1 ∨ c = i2 := fun {c} m => by simpa using m
  refine { mem := List.mem_cons_self, obj := ?_, keep := ?_, item := ?_, done := ?_, self := fun A i s Q E st h => wpAny_pyIter_zip st.1 h }
  · rintro i h ⟨hz, h1, ⟨x, y, h2⟩, g1, g2⟩ c m
    rcases five m with e | e | e | e | e <;> subst e
    · exact ⟨_, hz, fun v q => nomatch q⟩
    · exact ⟨_, h1, fun v q => nomatch q⟩
    · exact ⟨_, h2, fun v q => nomatch q⟩
    · exact iterH_obj g1
    · exact iterH_obj g2
  · rintro i h h' ⟨hz, h1, ⟨x, y, h2⟩, g1, g2⟩ k
    exact ⟨k z (by simp) _ hz, k T1 (by simp) _ h1, ⟨x, y, k T2 (by simp) _ h2⟩, iterH_at g1 fun o => k i1 (by simp) o, iterH_at g2 fun o => k i2 (by simp) o⟩
  · intro X eP ew eK calm i pins s σ H E I fp ⟨hz, h1, ⟨x0, y0, h2⟩, g1, g2⟩ ⟨xs, ys, x, y, qa, qb, hx, hy⟩
    subst eP ew eK
    obtain ⟨its, r1, q1, _⟩ := seqO I qa
    obtain ⟨jts, r2, q2, _⟩ := seqO I qb
    obtain ⟨ux, eux, rux⟩ := r1.get hx
    obtain ⟨uy, euy, ruy⟩ := r2.get hy
    have lx := (List.getElem?_eq_some_iff.mp eux).1
    have ly := (List.getElem?_eq_some_iff.mp euy).1
    have hzl : z < s.heap.objs.size := Heap.lt_size hz
    have hh : X.A.in1.handled = none := I.ok.hd calm
    refine wpAny_pyNext_zipD2_item S (draws_of t hh i1 a na its.toArray) (draws_of u hh i2 b nb jts.toArray) hz h1 h2 ⟨g1, q1⟩ ⟨g2, q2⟩ (by simpa using lx) (by simpa using ly) fun u1 u2 h' tk e1 e2 hz' h2' ⟨g1', _⟩ ⟨g2', _⟩ hn hsz hk => ?_
    have e1' : u1 = ux := by
      have e := e1
      rw [List.getElem?_toArray, eux] at e
      exact (Option.some.inj e).symm
    have e2' : u2 = uy := by
      have e := e2
      rw [List.getElem?_toArray, euy] at e
      exact (Option.some.inj e).symm
    subst e1' e2'
    refine ⟨_, rfl, wpAny_letOwnedTupleGo_zip (s := { s with heap := h', toks := tk }) hz' fun h3 hz3 sb => ?_⟩
    have hn3 : h3.get? s.heap.objs.size = some { cls := .type "tuple", data := .seq #[u1, u2] } := (sb.2 _ (Nat.ne_of_gt hzl)).trans hn
    have nobj : ObjOk X.prog X.w (upd H s.heap.objs.size (.tup [x, y])) h3 s.heap.objs.size (.tup [x, y]) := ⟨by show 2 ≤ sizeLine; decide, [u1, u2], .cons rux (.cons ruy .nil), ⟨_, hn3, rfl, _, rfl⟩⟩
    have back : ∀ c o, c ∉ [z, T1, T2, i1, i2] → s.heap.get? c = some o → h3.get? c = some o := fun c o m e => by
      have m1 : c ≠ z := fun q => m (by rw [q]; simp)
      exact (sb.2 c m1).trans (hk c o m1 (fun q => m (by rw [q]; simp)) (fun q => m (by rw [q]; simp)) (fun q => m (by rw [q]; simp)) e)
    have J : L2.Inv X pins σ (upd H s.heap.objs.size (.tup [x, y])) { s with heap := h3, toks := tk } := I.turnedNew (t' := tk) (ch := [z, T1, T2, i1, i2]) back fp (Nat.le_refl _) nobj
    refine ⟨.ref s.heap.objs.size, _, J, rfl, ⟨_, x, y, rfl, I.hok.fresh (Nat.le_refl _), rfl, fun l hl => by rw [seqO_inj I hl qa]; exact hx, fun l hl => by rw [seqO_inj I hl qb]; exact hy⟩, ⟨hz3, ?_, ⟨u1, u2, (sb.2 _ S.TOz).trans h2'⟩, iterH_at g1' fun o e => (sb.2 _ S.zi1.symm).trans e, iterH_at g2' fun o e => (sb.2 _ S.zi2.symm).trans e⟩, fun c m => ?_⟩
    · exact (sb.2 _ S.TIz).trans (hk _ _ S.TIz S.TITO S.TIi1 S.TIi2 h1)
    · have hc : c < s.heap.objs.size := by
        obtain ⟨o, e, _⟩ : ∃ o, s.heap.get? c = some o ∧ True := by
          rcases five m with e | e | e | e | e <;> subst e
          · exact ⟨_, hz, trivial⟩
          · exact ⟨_, h1, trivial⟩
          · exact ⟨_, h2, trivial⟩
          · obtain ⟨o, e, _⟩ := iterH_obj g1
            exact ⟨o, e, trivial⟩
          · obtain ⟨o, e, _⟩ := iterH_obj g2
            exact ⟨o, e, trivial⟩
        exact Heap.lt_size e
      rw [upd_ne (Nat.ne_of_lt hc)]
      exact (fp c m).1
  · intro X eP ew eK calm i pins s σ H E I fp ⟨hz, h1, ⟨x0, y0, h2⟩, g1, g2⟩ ⟨xs, ys, qa, qb, hend⟩
    subst eP ew eK
    obtain ⟨its, r1, q1, _⟩ := seqO I qa
    obtain ⟨jts, r2, q2, _⟩ := seqO I qb
    have l1 := r1.length
    have l2 := r2.length
    have hh : X.A.in1.handled = none := I.ok.hd calm
    refine wpAny_pyNext_zipD2_end S (draws_of t hh i1 a na its.toArray) (draws_of u hh i2 b nb jts.toArray) hz h1 h2 ⟨g1, q1⟩ ⟨g2, q2⟩ (by rw [List.size_toArray]; omega) (by rw [List.size_toArray]; omega) (by rw [List.size_toArray, List.size_toArray]; omega) fun h' tk hk => ⟨rfl, I.turnedL (t' := tk) (ch := [z, T1, T2, i1, i2]) (fun c o m e => ?_) fp⟩
    exact hk c o (fun q => m (by rw [q]; simp)) (fun q => m (by rw [q]; simp)) (fun q => m (by rw [q]; simp)) (fun q => m (by rw [q]; simp)) e
def iZipO (t u : Bool) (K : PySem.W.Frag) (ta : TA) : TI := fun σ H R => ta σ H fun vs H1 => ∃ a b xs ys, vs = [.ref a, .ref b] ∧ SqO t K H1 a xs ∧ SqO u K H1 b ys ∧ R (ItzO t u K a b) H1
theorem pi_zipO {X : Cx} {e e2 : Expr} {ta : TA} {p pos tpos : Pos} {elts : List Expr} {kk : Nat} (t u : Bool) (hg : Gl X "zip") (hm : X.mg "zip" = none) (ha : PA X [e, e2] ta)
    (hs : starEach [e, e2] X.env = (false, eval e X.env) :: starEach [e2] X.env := by rfl) (hpl : (backTo pos (starEach [e2] X.env)).any (·.1) = false := by rfl) :
    PI X (.Tuple elts kk tpos) (.Call (.Name "zip" p) [e, e2] [] pos) (iZipO t u X.K ta) := by
  refine ⟨fun pins s σ H R I h => Call_ (ld_blt I hg hm PyProof.Rows.boot_zip (PyProof.Rows.callWith_type1 (thn (ha.run pos pins s σ H _ I h) fun us s1 ⟨vs, H1, I1, r1, a, b, xs, ys, ev, qa, qb, q⟩ => ?_) hs hpl))⟩
  subst ev
  cases r1 with
  | cons r rr => cases rr with
    | cons r' rr =>
      cases rr
      cases r
      cases r'
      obtain ⟨its, _, q1, la⟩ := seqO I1 qa
      obtain ⟨jts, _, q2, lb⟩ := seqO I1 qb
      obtain ⟨o1, B1, n1⟩ := begins_of t a its.toArray
      obtain ⟨o2, B2, n2⟩ := begins_of u b jts.toArray
      refine zip_begins2 B1 B2 q1 q2 fun h' hz h1 h2 g1 g2 hsz hk => wpAny_pyIter_zip hz ?_
      have J : L2.Inv X pins σ H1 { s1 with heap := h' } := I1.kept (t' := s1.toks) hk
      refine ⟨_, [s1.heap.objs.size + 4, s1.heap.objs.size + 2, s1.heap.objs.size + 3, s1.heap.objs.size, s1.heap.objs.size + 1], _, _, H1, rfl, J,
        turnZ t u (zip_sep2 (N := s1.heap.objs.size) (fp1 := [a]) (fp2 := [b]) (fun c m => by rw [List.mem_singleton.mp m]; exact la) (fun c m => by rw [List.mem_singleton.mp m]; exact lb)) (Nat.ne_of_lt la) (Nat.ne_of_lt (Nat.lt_succ_of_lt lb)), ⟨hz, h1, ⟨_, _, h2⟩, n1 _ _ g1, n2 _ _ g2⟩, fun c m => ?_, q⟩
      have hle : s1.heap.objs.size ≤ c := by
        simp only [List.mem_cons, List.not_mem_nil, or_false] at m
        rcases m with e | e | e | e | e <;> rw [e]
        · exact Nat.le_add_right _ _
        · exact Nat.le_add_right _ _
        · exact Nat.le_add_right _ _
        · exact Nat.le_refl _
        · exact Nat.le_add_right _ _
      exact I1.fpOk hle (I1.hok.fresh hle)

/-! #### enumerate -/
def enumObj (N : Addr) : Obj := { cls := .type "enumerate", data := .fields #[.none, .bool false, .ref N, rawInt 0, .none, .none] }
theorem meetsEnum {v : Value} {ob : Obj} {H0 : Heap → Prop} (B : Begins v ob H0) :
    Meets (Builtin.«enumerate.__new__» ⟨[.type "enumerate", v], []⟩) (fun _ R s => H0 s.heap ∧ R (.ok (.ret (.ref (s.heap.push ob).objs.size))) { s with heap := (s.heap.push ob).push (enumObj s.heap.objs.size) }) :=
  .of_wp fun pr w1 A1 R1 s1 hyp => by
    obtain ⟨hp, ge, dr, tk, os⟩ := s1
    obtain ⟨b0, hyp⟩ := hyp
    have subE := sub_enumerate
    have itr : ∀ {A2 : Around} {E2 : Value → Shared → Prop} {Q2 : Value → Shared → Prop}, Q2 (.ref hp.objs.size) ⟨hp.push ob, ge, dr, tk, os⟩ → wpAny (model pr w1) A2 (pyIter v) Q2 E2 ⟨hp, ge, dr, tk, os⟩ := fun q => B.iter pr w1 _ _ ⟨hp, ge, dr, tk, os⟩ _ b0 q
    wp_walk using itr
    refine wpAny_stack_any fun stk => wpAny_pure ?_
    split
    · rename_i cl _ _ _ _ _
      cases (cl == Value.type "enumerate") <;> (wp_walk using itr; exact ⟨_, rfl, hyp⟩)
    · wp_walk using itr
      exact ⟨_, rfl, hyp⟩
theorem call_enumO {prog : Program} {w : World} {A : Around} {E : Value → Shared → Prop} {s : Shared} {v : Value} {ob : Obj} {H0 : Heap → Prop} {Q : Value → Shared → Prop} (B : Begins v ob H0) (b0 : H0 s.heap)
    (q : ∀ h', IsEnum h' (s.heap.objs.size + 1) s.heap.objs.size 0 .none → h'.get? s.heap.objs.size = some ob → (∀ c o, s.heap.get? c = some o → h'.get? c = some o) → Q (.ref (s.heap.objs.size + 1)) { s with heap := h' }) :
    wpAny (model prog w) A (call (.type "enumerate") [v]) Q E s := by
  have sz : (s.heap.push ob).objs.size = s.heap.objs.size + 1 := Heap.size_push ..
  refine callType_new F.called_enumerate (by decide) (F.typeCall_enumerate_1 _) (F.newCall_enumerate_1 _) (fun x => F.args_object_init_2 x _) F.entry_enumerate_new (meetsEnum B) ⟨b0, ?_⟩
  have top : ((s.heap.push ob).push (enumObj s.heap.objs.size)).get? (s.heap.push ob).objs.size = some (enumObj s.heap.objs.size) := Heap.get?_push_size _ rfl
  rw [sz] at top
  show _ ∧ _
  rw [sz]
  exact ⟨⟨_, top, rfl⟩, q _ top (Heap.get?_push_of_some _ (Heap.get?_push_size _ B.free)) fun c o e => Heap.get?_push_of_some _ (Heap.get?_push_of_some _ e)⟩
def IteO (t : Bool) (K : PySem.W.Frag) (a : Addr) : It :=
  ⟨fun i H => ∃ (xs : List V) (x : V), SqO t K H a xs ∧ xs[i]? = some x,
   fun i H v H' => ∃ T x, v = .ref T ∧ H T = none ∧ H' = upd H T (.tup [.int (i : Nat), x]) ∧ ∀ xs, SqO t K H a xs → xs[i]? = some x,
   fun i H => ∃ xs : List V, SqO t K H a xs ∧ xs.length = i⟩
theorem turnE {P : Program} {w : World} {K : PySem.W.Frag} {elts : List Expr} {kk : Nat} {tpos : Pos} (t : Bool) {a e it : Addr} (hne : e ≠ it) (na : a ≠ it) (ea : e ≠ a) :
    Turn P w K (.Tuple elts kk tpos) (IteO t K a) [e, it] e (fun i h => (∃ old, IsEnum h e it ((i : Nat) : Int) old) ∧ IterH t h it a i) := by
  have two : ∀ {c : Addr}, c ∈ [e, it] → c = e ∨ c = it := fun {c} m => by simpa using m
  have nef : e ∉ [it, a] := fun m => by
    rcases List.mem_cons.mp m with z | z
    · exact hne z
    · exact ea (List.mem_singleton.mp z)
  refine { mem := List.mem_cons_self, obj := ?_, keep := ?_, item := ?_, done := ?_, self := fun A i s Q E st h => st.1.elim fun _ he => wpAny_pyIter_enum he h }
  · rintro i h ⟨⟨old, he⟩, g⟩ c m
    rcases two m with z | z <;> subst z
    · exact ⟨_, he, fun v q => nomatch q⟩
    · exact iterH_obj g
  · rintro i h h' ⟨⟨old, he⟩, g⟩ k
    exact ⟨⟨old, k e (by simp) _ he⟩, iterH_at g fun o => k it (by simp) o⟩
  · intro X eP ew eK calm i pins s σ H E I fp ⟨⟨old, he⟩, g⟩ ⟨xs, x, qa, hx⟩
    subst eP ew eK
    obtain ⟨its, r1, q1, _⟩ := seqO I qa
    obtain ⟨ux, eux, rux⟩ := r1.get hx
    have lx := (List.getElem?_eq_some_iff.mp eux).1
    have hel : e < s.heap.objs.size := Heap.lt_size he
    have hh : X.A.in1.handled = none := I.ok.hd calm
    refine wpAny_pyNext_enum_itemD (draws_of t hh it a na its.toArray) he ⟨g, q1⟩ (by simpa using lx) hne nef fun u1 h' tk e1 ho ⟨g', _⟩ hn hsz hk => ?_
    have e1' : u1 = ux := by
      have z := e1
      rw [List.getElem?_toArray, eux] at z
      exact (Option.some.inj z).symm
    subst e1'
    refine ⟨_, rfl, wpAny_letOwnedTupleGo_enum (s := { s with heap := h', toks := tk + 1 }) ho fun h3 he3 sb => ?_⟩
    have hn3 : h3.get? s.heap.objs.size = some { cls := .type "tuple", data := .seq #[.int i tk, u1] } := (sb.2 _ (Nat.ne_of_gt hel)).trans hn
    have nobj : ObjOk X.prog X.w (upd H s.heap.objs.size (.tup [.int (i : Nat), x])) h3 s.heap.objs.size (.tup [.int (i : Nat), x]) := ⟨by show 2 ≤ sizeLine; decide, [.int i tk, u1], .cons ⟨_, rfl⟩ (.cons rux .nil), ⟨_, hn3, rfl, _, rfl⟩⟩
    have back : ∀ c o, c ∉ [e, it] → s.heap.get? c = some o → h3.get? c = some o := fun c o m z => by
      have m1 : c ≠ e := fun q => m (by rw [q]; simp)
      exact (sb.2 c m1).trans (hk c o m1 (fun q => m (by rw [q]; simp)) z)
    have J : L2.Inv X pins σ (upd H s.heap.objs.size (.tup [.int (i : Nat), x])) { s with heap := h3, toks := tk + 1 } := I.turnedNew (t' := tk + 1) (ch := [e, it]) back fp (Nat.le_refl _) nobj
    refine ⟨.ref s.heap.objs.size, _, J, rfl, ⟨_, x, rfl, I.hok.fresh (Nat.le_refl _), rfl, fun l hl => by rw [seqO_inj I hl qa]; exact hx⟩, ⟨⟨u1, ?_⟩, iterH_at g' fun o z => (sb.2 _ hne.symm).trans z⟩, fun c m => ?_⟩
    · rw [show ((i + 1 : Nat) : Int) = (i : Int) + 1 by omega]
      exact he3
    · have hc : c < s.heap.objs.size := by
        rcases two m with z | z <;> subst z
        · exact hel
        · obtain ⟨o, z, _⟩ := iterH_obj g
          exact Heap.lt_size z
      rw [upd_ne (Nat.ne_of_lt hc)]
      exact (fp c m).1
  · intro X eP ew eK calm i pins s σ H E I fp ⟨⟨old, he⟩, g⟩ ⟨xs, qa, hend⟩
    subst eP ew eK
    obtain ⟨its, r1, q1, _⟩ := seqO I qa
    have l1 := r1.length
    have hh : X.A.in1.handled = none := I.ok.hd calm
    have ei : i = its.toArray.size := by rw [List.size_toArray]; omega
    obtain ⟨f0, f1, f2, f3, f4, f5⟩ := fp it (by simp)
    refine wpAny_pyNext_enum_endD (n := its.toArray.size) (draws_of t hh it a na its.toArray) he ⟨by rw [← ei]; exact g, q1⟩ fun h' eb => ⟨rfl, I.turned (t' := s.toks) (fun c o m z => eb c o m z) f0 f1 f3 f4 f5⟩
def iEnumO (t : Bool) (K : PySem.W.Frag) (ta : TA) : TI := fun σ H R => ta σ H fun vs H1 => ∃ a xs, vs = [.ref a] ∧ SqO t K H1 a xs ∧ R (IteO t K a) H1
theorem pi_enumO {X : Cx} {e : Expr} {ta : TA} {p pos tpos : Pos} {elts : List Expr} {kk : Nat} (t : Bool) (hg : Gl X "enumerate") (hm : X.mg "enumerate" = none) (ha : PA X [e] ta) (hs : starEach [e] X.env = [(false, eval e X.env)] := by rfl) :
    PI X (.Tuple elts kk tpos) (.Call (.Name "enumerate" p) [e] [] pos) (iEnumO t X.K ta) := by
  refine ⟨fun pins s σ H R I h => Call_ (ld_blt I hg hm boot_enumerate (PyProof.Rows.callWith_type1 (thn (ha.run pos pins s σ H _ I h) fun us s1 ⟨vs, H1, I1, r1, a, xs, ev, qa, q⟩ => ?_) hs rfl))⟩
  subst ev
  cases r1 with
  | cons r rr =>
    cases rr
    cases r
    obtain ⟨its, _, q1, la⟩ := seqO I1 qa
    obtain ⟨o1, B1, n1⟩ := begins_of t a its.toArray
    refine call_enumO B1 q1 fun h' he g1 hk => wpAny_pyIter_enum he ?_
    have J : L2.Inv X pins σ H1 { s1 with heap := h' } := I1.kept (t' := s1.toks) hk
    refine ⟨_, [s1.heap.objs.size + 1, s1.heap.objs.size], _, _, H1, rfl, J, turnE t (Nat.succ_ne_self _) (Nat.ne_of_lt la) (Nat.ne_of_gt (Nat.lt_succ_of_lt la)), ⟨⟨.none, he⟩, n1 _ _ g1⟩, fun c m => ?_, q⟩
    have hle : s1.heap.objs.size ≤ c := by
      simp only [List.mem_cons, List.not_mem_nil, or_false] at m
      rcases m with z | z <;> rw [z]
      · exact Nat.le_add_right _ _
      · exact Nat.le_refl _
    exact I1.fpOk hle (I1.hok.fresh hle)

/-! #### as walks over data -/
section
variable {K : PySem.W.Frag} {σ : L2.St} {B H : Hp} {S : List Addr} {tA : TA} {ds es : List PyData}
theorem dq_seqO {t : Bool} {v : V} (h : Dq K B v (seqD t ds)) : ∃ a xs, v = .ref a ∧ DqAll K B xs ds ∧ ∀ H', Ex B H' → SqO t K H' a xs := by
  cases t with
  | true =>
    cases h with
    | @tup a xs _ hs hd => exact ⟨a, xs, rfl, hd, fun H' e => st_of (e _ _ hs)⟩
  | false =>
    cases h with
    | @lst a xs _ hs hd => exact ⟨a, xs, rfl, hd, fun H' e => ex_l e hs⟩
/-- read at one world: the one reading of it -/
theorem sqO_one {t : Bool} {H' : Hp} {a : Addr} {i : Nat} {x : V} {xs : List V} (f : ∀ ys, SqO t K H' a ys → ys[i]? = some x) (h : SqO t K H' a xs) : xs[i]? = some x := f xs h
theorem wk_zipO {t u : Bool} (h : EvAD K tA σ B [seqD t ds, seqD u es]) : WkD K (iZipO t u K tA) σ B (zipD ds es) := fun S H w R k => h.bind w fun vs B1 H1 e1 eB1 w1 rs => by
  obtain ⟨v1, v2, rfl, h1, h2⟩ := two_args rs
  obtain ⟨a, xs, rfl, hx, sx⟩ := dq_seqO h1
  obtain ⟨b, ys, rfl, hy, sy⟩ := dq_seqO h2
  have lx := DqAll.length hx
  have ly := DqAll.length hy
  have lz : (zipD ds es).length = min ds.length es.length := by
    unfold zipD
    rw [List.length_map, List.length_zip]
  refine ⟨a, b, xs, ys, rfl, sx _ w1.ex, sy _ w1.ex, k _ B1 H1 e1 eB1 w1 (fun i H' e hi => ?_) (fun i H' e hi => ⟨xs, ys, sx _ e, sy _ e, by omega⟩) fun i S' B' H' x H'' eB w' hi y => ?_⟩
  · exact ⟨xs, ys, _, _, sx _ e, sy _ e, List.getElem?_eq_getElem (show i < xs.length by omega), List.getElem?_eq_getElem (show i < ys.length by omega)⟩
  · obtain ⟨T, x1, y1, rfl, hT, rfl, f1, f2⟩ := y
    have g1 := f1 _ (sx _ (eB.trans w'.ex))
    have g2 := f2 _ (sy _ (eB.trans w'.ex))
    obtain ⟨d1, p1, q1⟩ := DqAll.get hx g1
    obtain ⟨d2, p2, q2⟩ := DqAll.get hy g2
    have eN := w'.newE (o := .tup [x1, y1]) hT
    refine ⟨upd B' T (.tup [x1, y1]), Ex.new hT, eN, w'.new hT, .tuple [d1, d2], ?_, .tup upd_same (.cons (Dq.mono (eB.trans eN) q1) (.cons (Dq.mono (eB.trans eN) q2) .nil))⟩
    unfold zipD
    rw [List.getElem?_map, List.getElem?_zip_eq_some (z := (d1, d2)) |>.mpr ⟨p1, p2⟩]
    rfl
def enumD (ds : List PyData) : List PyData := (ds.zipIdx).map fun p => .tuple [.int p.2, p.1]
theorem wk_enumO {t : Bool} (h : EvAD K tA σ B [seqD t ds]) : WkD K (iEnumO t K tA) σ B (enumD ds) := fun S H w R k => h.bind w fun vs B1 H1 e1 eB1 w1 rs => by
  cases rs with
  | cons h1 r =>
  cases r
  obtain ⟨a, xs, rfl, hx, sx⟩ := dq_seqO h1
  have lx := DqAll.length hx
  have lz : (enumD ds).length = ds.length := by
    unfold enumD
    rw [List.length_map, List.length_zipIdx]
  refine ⟨a, xs, rfl, sx _ w1.ex, k _ B1 H1 e1 eB1 w1 (fun i H' e hi => ?_) (fun i H' e hi => ⟨xs, sx _ e, by omega⟩) fun i S' B' H' x H'' eB w' hi y => ?_⟩
  · exact ⟨xs, _, sx _ e, List.getElem?_eq_getElem (show i < xs.length by omega)⟩
  · obtain ⟨T, x1, rfl, hT, rfl, f1⟩ := y
    have g1 := f1 _ (sx _ (eB.trans w'.ex))
    obtain ⟨d1, p1, q1⟩ := DqAll.get hx g1
    have eN := w'.newE (o := .tup [.int (i : Nat), x1]) hT
    refine ⟨upd B' T (.tup [.int (i : Nat), x1]), Ex.new hT, eN, w'.new hT, .tuple [.int (i : Nat), d1], ?_, .tup upd_same (.cons (.int _) (.cons (Dq.mono (eB.trans eN) q1) .nil))⟩
    unfold enumD
    rw [List.getElem?_map, List.getElem?_zipIdx, p1]
    simp
end
end Pw

/-! ## PwPos -/
namespace Pw
open PySem L2 Evl

/-- lists and tuples walked within a comprehension -/
theorem pi_listK {X : Cx} {tg iter : Expr} {te : TE} (K : PySem.W.Frag) (hK : X.K = K) (h : PE X iter te) : PI X tg iter (iList K te) := hK ▸ pi_list h
theorem pi_tupK {X : Cx} {tg iter : Expr} {te : TE} (K : PySem.W.Frag) (hK : X.K = K) (h : PE X iter te) : PI X tg iter (iTup K te) := hK ▸ pi_tup h

/-! ### dicts of ints to ints, sorted ints, walks over lists or tuples -/
def DMap (m : List (Int × Int)) (v : V) (B : Hp) : Prop := ∃ a kvs, v = .ref a ∧ B a = some (.dK kvs) ∧ ∀ p ∈ m, valV kvs (.inl p.1) = some (.int p.2)
theorem stays_dmap {m : List (Int × Int)} : Stays (DMap m) := fun v B B' e ⟨a, kvs, h1, h2, h3⟩ => ⟨a, kvs, h1, e _ _ h2, h3⟩
theorem merge_at : ∀ (l acc : List (Key × V)) (k : Key) (v : V), (l.map (·.1)).Nodup → (k, v) ∈ l → valV (mergeK acc l) k = some v
  | [], _, _, _, _, h => by cases h
  | q :: r, acc, k, v, hn, h => by
    rw [List.map_cons, List.nodup_cons] at hn
    show valV (mergeK (putK acc q.1 q.2) r) k = some v
    rcases List.mem_cons.mp h with h | h
    · subst h
      have keep : ∀ (l acc : List (Key × V)), ¬ k ∈ l.map (·.1) → valV acc k = some v → valV (mergeK acc l) k = some v := by
        intro l
        induction l with
        | nil => exact fun acc _ h => h
        | cons y r ih =>
          intro acc hm h
          rw [List.map_cons, List.mem_cons, not_or] at hm
          refine ih (putK acc y.1 y.2) hm.2 ?_
          rw [valV_put, if_neg hm.1]
          exact h
      exact keep r _ hn.1 (by rw [valV_put, if_pos rfl])
    · exact merge_at r _ k v hn.2 h
section
variable {K : PySem.W.Frag} {σ : L2.St} {B H : Hp} {S : List Addr} {ta tb td ty te : TE} {tA : TA} {ds es : List PyData}
theorem pairs_dm : ∀ {m : List (Int × Int)} {xs : List V}, DqAll K B xs (m.map fun p => .tuple [.int p.1, .int p.2]) →
    ∃ (ps : List Addr), xs = ps.map V.ref ∧ Paired (fun p (kv : Key × V) => SqT K B p [kV kv.1, kv.2]) ps (m.map fun p => (Sum.inl p.1, V.int p.2))
  | [], _, h => by cases h; exact ⟨[], rfl, .nil⟩
  | k :: m, _, h => by
    cases h with
    | cons h1 h2 =>
    obtain ⟨ps, rfl, h3⟩ := pairs_dm h2
    cases h1 with
    | @tup a ys _ hs hd =>
    have e := DqAll.ints_eq (ns := [k.1, k.2]) hd
    subst e
    exact ⟨a :: ps, rfl, .cons (st_of hs) h3⟩
theorem ev_dmap {m : List (Int × Int)} (hn : (m.map (·.1)).Nodup) (h : EvD K ta σ B (.list (m.map fun p => .tuple [.int p.1, .int p.2]))) : EvR (tCB (rDictP K) (tCons ta tNil)) σ B (DMap m) :=
  evR_of (fun S H w Q q => (ea_cons h ea_nil).bind w fun vs B1 H1 e1 eB1 w1 rs => by
    cases rs with
    | cons r1 r2 =>
    cases r2
    cases r1 with
    | @lst a xs _ hs hd =>
    obtain ⟨ps, rfl, hp⟩ := pairs_dm hd
    refine ⟨a, ps, _, rfl, ex_l w1.ex hs, paired_mono w1.ex hp, fun p hp => q (.ref p) _ _ (e1.trans (Ex.new hp)) (eB1.trans (w1.newE hp)) (w1.new hp) ⟨p, _, rfl, upd_same, fun k hk => ?_⟩⟩
    refine merge_at _ _ _ _ ?_ (List.mem_map.mpr ⟨k, hk, rfl⟩)
    rw [List.map_map]
    exact List.pairwise_map.mpr ((List.pairwise_map.mp hn).imp fun {a b} h e => h (Sum.inl.inj e))) stays_dmap
theorem ev_dgetI {m : List (Int × Int)} {p : Int × Int} (hd : EvR td σ B (DMap m)) (hk : EvD K ty σ B (.int p.1)) (hp : p ∈ m) : EvD K (tDGet td ty) σ B (.int p.2) :=
  evR_of (fun S H w Q q => hd.bind w fun x B1 H1 e1 eB1 w1 ⟨a, kvs, ex, ha, hv⟩ => (hk.mono eB1).bind w1 fun y B2 H2 e2 eB2 w2 ry => by
    cases ry
    subst ex
    refine ⟨a, _, rfl, ?_, q (.int p.2) B2 H2 (e1.trans e2) (eB1.trans eB2) w2 (.int _)⟩
    have g := DGet.k (H := H2) (a := a) (kvs := kvs) (k := .inl p.1) (w2.ex _ _ (eB2 _ _ ha))
    rw [hv p hp] at g
    exact g) stays_dp
/-- sorted(ints) -/
def srt (ns : List Int) : List Int := ns.mergeSort fun a b => decide (a ≤ b)
theorem srt_perm (ns : List Int) : (srt ns).Perm ns := List.mergeSort_perm _ _
theorem srt_len (ns : List Int) : (srt ns).length = ns.length := (srt_perm ns).length_eq
theorem srt_le (ns : List Int) : (srt ns).Pairwise (· ≤ ·) := by
  refine (List.pairwise_mergeSort (le := fun (a b : Int) => decide (a ≤ b)) (fun a b c h1 h2 => ?_) (fun a b => ?_) ns).imp fun {a b} h => of_decide_eq_true h
  · have h1 := of_decide_eq_true h1
    have h2 := of_decide_eq_true h2
    exact decide_eq_true (by omega)
  · rw [Bool.or_eq_true]
    rcases Int.le_total a b with h | h
    · exact .inl (decide_eq_true h)
    · exact .inr (decide_eq_true h)
theorem srt_eq {ns ys : List Int} (h : ys.Perm ns) (s : ys.Pairwise (· ≤ ·)) : ys = srt ns := List.Perm.eq_of_pairwise (fun a b _ _ h1 h2 => Int.le_antisymm h1 h2) s (srt_le ns) (h.trans (srt_perm ns).symm)
theorem ev_srt {ns : List Int} (h : EvD K te σ B (.list (ns.map .int))) : EvD K (tCB (rSortedI K) (tCons te tNil)) σ B (.list ((srt ns).map .int)) :=
  evR_of (fun S H w Q q => h.bind w fun x B1 H1 e1 eB1 w1 rx => by
    cases rx with
    | @lst a xs _ hs hd =>
    have e := DqAll.ints_eq hd
    subst e
    refine ⟨a, ns, rfl, ex_l w1.ex hs, fun ys p hp hs2 hn => ?_⟩
    rw [srt_eq hp hs2]
    exact q (.ref p) _ _ (e1.trans (Ex.new hn)) (eB1.trans (w1.newE (o := .lst ((srt ns).map V.int)) hn)) (w1.new hn) (.lst (sq_of upd_same) DqAll.ints)) stays_dp
theorem wk_enumS {t : Bool} (h : EvAD K tA σ B [seqD t ds]) : WkD K (fun σ H R => iEnumO false K tA σ H R ∨ iEnumO true K tA σ H R) σ B (enumD ds) := by
  cases t with
  | true => exact fun S H w R k => .inr (wk_enumO (t := true) h S H w R k)
  | false => exact fun S H w R k => .inl (wk_enumO (t := false) h S H w R k)
theorem wk_zipS {u : Bool} (h : EvAD K tA σ B [.list ds, seqD u es]) : WkD K (fun σ H R => iZipO false false K tA σ H R ∨ iZipO false true K tA σ H R) σ B (zipD ds es) := by
  cases u with
  | true => exact fun S H w R k => .inr (wk_zipO (t := false) (u := true) h S H w R k)
  | false => exact fun S H w R k => .inl (wk_zipO (t := false) (u := false) h S H w R k)
theorem wk_slS {t : Bool} {tl th : TO} {lo hi : Option Int} (h : EvD K te σ B (seqD t ds)) (hl : EvP tl σ B lo) (hh : EvP th σ B hi) : WkD K (fun σ H R => iList K (tSl (rSlL K) te tl th) σ H R ∨ iTup K (tSl (rSlA K) te tl th) σ H R) σ B (cutA ds lo hi) := by
  cases t with
  | true => exact fun S H w R k => .inr (wk_tup (ev_slA (show EvD K te σ B (.tuple ds) from h) hl hh) S H w R k)
  | false => exact fun S H w R k => .inl (wk_list (ev_slL (show EvD K te σ B (.list ds) from h) hl hh) S H w R k)
end
theorem cutA_take {α : Type} (xs : List α) (k : Nat) : cutA xs none (some ((k : Nat) : Int)) = xs.take k := by
  unfold cutA
  show (xs.drop 0).take (HT.sIx xs.length xs.length (some (k : Int)) - 0) = _
  rw [HT.sIx_nat, List.drop_zero, Nat.sub_zero]
  by_cases h : k ≤ xs.length
  · rw [Nat.min_eq_left h]
  · rw [Nat.min_eq_right (by omega), List.take_of_length_le (Nat.le_refl _), List.take_of_length_le (by omega)]
theorem cutA_drop {α : Type} (xs : List α) (k : Nat) : cutA xs (some ((k : Nat) : Int)) none = xs.drop k := by
  unfold cutA
  show (xs.drop (HT.sIx xs.length 0 (some (k : Int)))).take (xs.length - HT.sIx xs.length 0 (some (k : Int))) = _
  rw [HT.sIx_nat]
  by_cases h : k ≤ xs.length
  · rw [Nat.min_eq_left h]
    exact List.take_of_length_le (by rw [List.length_drop]; exact Nat.le_refl _)
  · rw [Nat.min_eq_right (by omega), List.drop_of_length_le (Nat.le_refl _), List.drop_of_length_le (by omega)]
    simp

/-! ### places open behind each turn of an order -/
def posIn (order : List Int) (p : Int) : Nat := order.idxOf p
def openL (ts : List Tie) (order : List Int) (i : Nat) : List Int := (order.take (i + 1)).filter fun p => (nb ts p).any fun q => decide ((posIn order q : Int) > (i : Int))
def openS (ts : List Tie) (order : List Int) : List (List Int) := (List.range order.length).map fun i => srt (openL ts order i)
def widths (ts : List Tie) (order : List Int) : List Int := (List.range order.length).map fun i => ((openL ts order i).length : Int)
/-- the places, each once -/
structure Order (n : Int) (order : List Int) : Prop where
  perm : order.Perm (rngI 0 n.toNat)
theorem Order.nd {n : Int} {order : List Int} (o : Order n order) : order.Nodup := o.perm.nodup_iff.mpr (rngI_nd _ _)
theorem Order.mem {n : Int} {order : List Int} (o : Order n order) {p : Int} : p ∈ order ↔ 0 ≤ p ∧ p < n := by
  rw [o.perm.mem_iff, rngI_mem]
  omega
theorem Order.len {n : Int} {order : List Int} (o : Order n order) : order.length = n.toNat := by rw [o.perm.length_eq, rngI_len]
theorem openL_len {n : Int} {ts : List Tie} {order : List Int} (o : Order n order) (i : Nat) : (openL ts order i).length ≤ n.toNat := by
  refine Nat.le_trans (List.length_filter_le _ _) ?_
  rw [List.length_take, o.len]
  exact Nat.min_le_right _ _
theorem posIn_at {order : List Int} (hn : order.Nodup) {i : Nat} {p : Int} (h : order[i]? = some p) : posIn order p = i := by
  obtain ⟨hi, e⟩ := List.getElem?_eq_some_iff.mp h
  unfold posIn
  rw [← e]
  exact List.Nodup.idxOf_getElem hn i hi
theorem posIn_get {order : List Int} {p : Int} (h : p ∈ order) : order[posIn order p]? = some p := by
  unfold posIn
  have hl := List.idxOf_lt_length_of_mem h
  rw [List.getElem?_eq_getElem hl]
  exact congrArg some (List.getElem_idxOf hl)
def posM (order : List Int) : List (Int × Int) := order.zipIdx.map fun p => (p.1, (p.2 : Int))
theorem posM_keys (order : List Int) : (posM order).map (·.1) = order := by
  unfold posM
  rw [List.map_map]
  exact List.zipIdx_map_fst 0 order
theorem posM_mem {order : List Int} {p : Int} (h : p ∈ order) : (p, (posIn order p : Int)) ∈ posM order := by
  refine List.mem_map.mpr ⟨(p, posIn order p), ?_, rfl⟩
  exact List.mk_mem_zipIdx_iff_getElem?.mpr (posIn_get h)
end Pw

/-! ## PwFlat -/
namespace Pw
open PySem PySem.Spec PyProof.Rows L2 Evl

/-! ### x in a tuple of data; "if c: xs.append(e)" -/
def rInDT (K : PySem.W.Frag) : R2 := fun x y H Q => ∃ d ds, Dp K H x d ∧ Dp K H y (.tuple ds) ∧ SeqAt.shaped d = true ∧ SeqAt.shaped (.tuple ds) = true ∧ Q (.bl (ds.any fun z => PyData.eqv z d)) H
theorem op_inDT {X : Cx} (hu : X.A.units + 65 < cLine) : OpR X (compareOp .In) (rInDT X.K) := by
  intro pins s σ H x y v u Q I rx ry h
  obtain ⟨d, ds, hd, he, sd, se, q⟩ := h
  obtain ⟨as, r1⟩ := Dp.reads I d x v hd rx
  obtain ⟨bs, r2⟩ := Dp.reads I (.tuple ds) y u he ry
  exact SeqAt.in_tuple_reads r2 r1 (SeqAt.canLay_of_shaped se) (SeqAt.canLay_of_shaped sd) (room_in_shaped sd hu) ⟨.bl _, H, I, rfl, q⟩
section
variable {K : PySem.W.Frag} {σ : L2.St} {B H : Hp} {S : List Addr} {te ta tb : TE} {tt : TT} {d : PyData} {ds : List PyData} {D : Ends}
theorem ev_inDT (ha : EvD K ta σ B d) (hb : EvD K tb σ B (.tuple ds)) (s1 : SeqAt.shaped d = true) (s2 : SeqAt.shaped (.tuple ds) = true) : EvD K (tOp (rInDT K) ta tb) σ B (.bool (ds.any fun z => PyData.eqv z d)) :=
  ev_op ha hb (fun x y B' H' Q hx hy e q => ⟨d, ds, Dq.dp (Dq.mono e hx), Dq.dp (Dq.mono e hy), s1, s2, q _ (.bl _)⟩) stays_dp
theorem st_ifApp {i : Nat} {a : Addr} {ys : List V} {c : Bool} {H0 : Hp} (w : Wd S B H) (hi : σ[i]? = some (some (.ref a))) (hA : H a = some (.lst ys)) (h0 : H0 a = none) (e0 : Ex H0 H) (hm : a ∈ S) (hl : ys.length ≤ 40000) (hc : EvB tt σ B c) (he : c = true → EvD K te σ B d)
    (k : ∀ B' H' vs, Ex H0 H' → Ex B B' → Wd S B' H' → H' a = some (.lst (ys ++ vs)) → DqAll K B' vs (if c = true then [d] else []) → D.nx σ H') : tIfS tt (tDrop (tBM K "list" rAppend (tVar i) (tCons te tNil))) tNext D σ H := by
  refine st_if w hc (fun z B1 H1 e1 eB1 w1 => ?_) (fun z B1 H1 e1 eB1 w1 => ?_)
  · refine st_app w1 hi (e1 _ _ hA) hm hl ((he z).mono eB1) fun v B2 H2 e2 eB2 w2 r => ?_
    refine k B2 _ [v] ((e0.trans (e1.trans e2)).mut h0) (eB1.trans eB2) w2 upd_same ?_
    rw [if_pos z]
    exact .cons r .nil
  · refine st_next (k B1 H1 [] (e0.trans e1) eB1 w1 (by rw [List.append_nil]; exact e1 _ _ hA) ?_)
    rw [if_neg (by rw [z]; decide)]
    exact .nil
end

/-! ### flat webs -/
def cst (p : Nat × Nat) : Int × Int := ((p.1 : Int), (p.2 : Int))
def rowF (w h p : Nat) : List (Nat × Nat) := (if decide ((p + 1) % w > 0) = true then [(p, p + 1)] else []) ++ (if decide (p + w < w * h) = true then [(p, p + w)] else [])
def pairsFN (w h : Nat) : List (Nat × Nat) := (List.range (w * h)).flatMap (rowF w h)
/-- neighbours, as the law looks -/
def nearL (w a b : Nat) : Bool := decide ((((b % w : Nat) : Int) - ((a % w : Nat) : Int), ((b / w : Nat) : Int) - ((a / w : Nat) : Int)) ∈ [((1 : Int), (0 : Int)), (0, 1)])
def rowL (w m a : Nat) : List (Nat × Nat) := (List.range (m - (a + 1))).flatMap fun i => if nearL w a (a + 1 + i) = true then [(a, a + 1 + i)] else []
def pairsLN (w h : Nat) : List (Nat × Nat) := (List.range (w * h)).flatMap (rowL w (w * h))
def pairsF (w h : Nat) : List (Int × Int) := (pairsFN w h).map cst
def turnP (w h : Nat) (p : Nat × Nat) : Nat × Nat := if p.1 / w + h * (p.1 % w) ≤ p.2 / w + h * (p.2 % w) then (p.1 / w + h * (p.1 % w), p.2 / w + h * (p.2 % w)) else (p.2 / w + h * (p.2 % w), p.1 / w + h * (p.1 % w))
structure FlatFacts (w h : Nat) : Prop where
  same : pairsLN w h = pairsFN w h
  turn : ((pairsFN w h).map (turnP w h)).Perm (pairsFN h w)
  ord : (pairsFN w h).Pairwise fun a b => a.1 < b.1 ∨ a.1 = b.1 ∧ a.2 < b.2
  ends : ∀ p ∈ pairsFN w h, p.1 < p.2 ∧ p.2 < w * h ∧ p.2 ≤ p.1 + w
  few : (pairsFN w h).length ≤ 100
instance (w h : Nat) : Decidable (FlatFacts w h) := decidable_of_iff (pairsLN w h = pairsFN w h ∧ ((pairsFN w h).map (turnP w h)).Perm (pairsFN h w) ∧ ((pairsFN w h).Pairwise fun a b => a.1 < b.1 ∨ a.1 = b.1 ∧ a.2 < b.2) ∧ (∀ p ∈ pairsFN w h, p.1 < p.2 ∧ p.2 < w * h ∧ p.2 ≤ p.1 + w) ∧ (pairsFN w h).length ≤ 100)
  ⟨fun ⟨a, b, c, d, e⟩ => ⟨a, b, c, d, e⟩, fun h => ⟨h.1, h.2, h.3, h.4, h.5⟩⟩
theorem flat_all : ∀ w ∈ List.range 7, ∀ h ∈ List.range 7, 0 < w → 0 < h → FlatFacts w h := by decide +kernel
theorem flat_facts {w h : Nat} (hw : 1 ≤ w ∧ w ≤ 6) (hh : 1 ≤ h ∧ h ≤ 6) : FlatFacts w h := flat_all w (List.mem_range.mpr (by omega)) h (List.mem_range.mpr (by omega)) (by omega) (by omega)
/-- pairs with weights -/
def zipT (ps : List (Int × Int)) (ws : List Int) : List Tie := (ps.zip ws).map fun x => (x.1.1, x.1.2, x.2)
def prT (t : Tie) : Int × Int := (t.1, t.2.1)
theorem zipT_pr {ps : List (Int × Int)} {ws : List Int} (h : ps.length ≤ ws.length) : (zipT ps ws).map prT = ps := by
  unfold zipT
  rw [List.map_map]
  exact List.map_fst_zip h
theorem zipT_wt {ps : List (Int × Int)} {ws : List Int} (h : ws.length ≤ ps.length) : (zipT ps ws).map (fun t => t.2.2) = ws := by
  unfold zipT
  rw [List.map_map]
  exact List.map_snd_zip h
theorem zipT_len {ps : List (Int × Int)} {ws : List Int} : (zipT ps ws).length = min ps.length ws.length := by
  unfold zipT
  rw [List.length_map, List.length_zip]
theorem zipT_self : ∀ (ts : List Tie), zipT (ts.map prT) (ts.map fun t => t.2.2) = ts
  | [] => rfl
  | t :: ts => by
    have ih := zipT_self ts
    unfold zipT at ih ⊢
    rw [List.map_cons, List.map_cons, List.zip_cons_cons, List.map_cons, ih]
    rfl
theorem zipT_mem {ps : List (Int × Int)} {ws : List Int} {t : Tie} (h : t ∈ zipT ps ws) : prT t ∈ ps ∧ t.2.2 ∈ ws := by
  unfold zipT at h
  obtain ⟨x, hx, rfl⟩ := List.mem_map.mp h
  exact ⟨(List.of_mem_zip hx).1, (List.of_mem_zip hx).2⟩
theorem pairsF_mem {w h : Nat} (F : FlatFacts w h) {p : Int × Int} (hp : p ∈ pairsF w h) : 0 ≤ p.1 ∧ p.1 < p.2 ∧ p.2 < ((w * h : Nat) : Int) ∧ p.2 ≤ p.1 + (w : Int) := by
  obtain ⟨q, hq, rfl⟩ := List.mem_map.mp hp
  have := F.ends q hq
  show 0 ≤ (q.1 : Int) ∧ (q.1 : Int) < (q.2 : Int) ∧ (q.2 : Int) < ((w * h : Nat) : Int) ∧ (q.2 : Int) ≤ (q.1 : Int) + (w : Int)
  omega
theorem pairsF_ord {w h : Nat} (F : FlatFacts w h) : (pairsF w h).Pairwise fun a b => a.1 < b.1 ∨ a.1 = b.1 ∧ a.2 < b.2 := by
  unfold pairsF
  rw [List.pairwise_map]
  refine F.ord.imp fun {a b} h => ?_
  show (a.1 : Int) < (b.1 : Int) ∨ (a.1 : Int) = (b.1 : Int) ∧ (a.2 : Int) < (b.2 : Int)
  omega
theorem flat_web {w h : Nat} {ws : List Int} (F : FlatFacts w h) (h1 : 1 ≤ w ∧ 1 ≤ h) (hl : ws.length = (pairsF w h).length) (hw : ∀ x ∈ ws, 1 ≤ x) : WebOk ((w * h : Nat) : Int) (zipT (pairsF w h) ws) := by
  refine ⟨?_, fun t ht => ?_, ?_, ?_⟩
  · have := Nat.mul_pos h1.1 h1.2
    omega
  · obtain ⟨g1, g2⟩ := zipT_mem ht
    have h3 : 0 ≤ t.1 ∧ t.1 < t.2.1 ∧ t.2.1 < ((w * h : Nat) : Int) ∧ t.2.1 ≤ t.1 + (w : Int) := pairsF_mem F g1
    have h4 := hw _ g2
    omega
  · have p := pairsF_ord F
    rw [← zipT_pr (ps := pairsF w h) (ws := ws) (by omega), List.pairwise_map] at p
    exact p
  · rw [zipT_len]
    have := F.few
    have e : (pairsF w h).length = (pairsFN w h).length := List.length_map _
    omega
/-! #### turned -/
def turnT (w h : Nat) (t : Tie) : Tie :=
  if t.1 / (w : Int) + (h : Int) * (t.1 % (w : Int)) ≤ t.2.1 / (w : Int) + (h : Int) * (t.2.1 % (w : Int)) then (t.1 / (w : Int) + (h : Int) * (t.1 % (w : Int)), t.2.1 / (w : Int) + (h : Int) * (t.2.1 % (w : Int)), t.2.2)
  else (t.2.1 / (w : Int) + (h : Int) * (t.2.1 % (w : Int)), t.1 / (w : Int) + (h : Int) * (t.1 % (w : Int)), t.2.2)
theorem place_cast (w h a : Nat) : (a : Int) / (w : Int) + (h : Int) * ((a : Int) % (w : Int)) = ((a / w + h * (a % w) : Nat) : Int) := by
  rw [← Int.natCast_ediv, ← Int.natCast_emod, ← Int.natCast_mul, ← Int.natCast_add]
theorem turn_pr {w h : Nat} {t : Tie} {p : Nat × Nat} (e : prT t = cst p) : prT (turnT w h t) = cst (turnP w h p) := by
  obtain ⟨a, b, x⟩ := t
  unfold prT cst at e
  simp only [Prod.mk.injEq] at e
  obtain ⟨rfl, rfl⟩ := e
  unfold turnT turnP
  simp only [place_cast]
  by_cases c : p.1 / w + h * (p.1 % w) ≤ p.2 / w + h * (p.2 % w)
  · rw [if_pos c, if_pos (by omega)]
    rfl
  · rw [if_neg c, if_neg (by omega)]
    rfl
theorem turned_eq {w h : Nat} {ws : List Int} {us : List Tie} (F : FlatFacts w h) (G : FlatFacts h w) (hl : ws.length = (pairsF w h).length) (hs : SortsTo (((zipT (pairsF w h) ws).map (turnT w h)).map tieL) (us.map tieL)) :
    us = zipT (pairsF h w) (us.map fun t => t.2.2) ∧ us.length = (pairsF h w).length ∧ ∀ x ∈ us.map (fun t => t.2.2), x ∈ ws := by
  have inj : us.Perm ((zipT (pairsF w h) ws).map (turnT w h)) := by
    have g : ∀ l : List Tie, (l.map tieL).map (fun l => (l.getD 0 0, l.getD 1 0, l.getD 2 0)) = l := fun l => by
      rw [List.map_map]
      exact (List.map_congr_left fun t _ => rfl).trans (List.map_id l)
    have p := hs.1.map fun l => (l.getD 0 0, l.getD 1 0, l.getD 2 0)
    rw [g, g] at p
    exact p
  have e1 : ((zipT (pairsF w h) ws).map (turnT w h)).map prT = ((pairsFN w h).map (turnP w h)).map cst := by
    have e2 : (zipT (pairsF w h) ws).map prT = (pairsFN w h).map cst := zipT_pr (by omega)
    have : ∀ (ts : List Tie) (ps : List (Nat × Nat)), ts.map prT = ps.map cst → (ts.map (turnT w h)).map prT = (ps.map (turnP w h)).map cst := by
      intro ts
      induction ts with
      | nil =>
        intro ps e
        cases ps with
        | nil => rfl
        | cons p r => cases e
      | cons t ts ih =>
        intro ps e
        cases ps with
        | nil => cases e
        | cons p r =>
          rw [List.map_cons, List.map_cons, List.cons.injEq] at e
          rw [List.map_cons, List.map_cons, List.map_cons, List.map_cons, ih r e.2, turn_pr e.1]
    exact this _ _ e2
  have p1 : (us.map prT).Perm (pairsF h w) := by
    refine (inj.map prT).trans ?_
    rw [e1]
    exact F.turn.map cst
  have s1 : (us.map prT).Pairwise (fun a b => a.1 < b.1 ∨ a.1 = b.1 ∧ a.2 ≤ b.2) := List.pairwise_map.mpr ((List.pairwise_map.mp hs.2).imp fun {s t} h => tie_le h)
  have s2 : (pairsF h w).Pairwise (fun a b => a.1 < b.1 ∨ a.1 = b.1 ∧ a.2 ≤ b.2) := (pairsF_ord G).imp fun {a b} h => by omega
  have e : us.map prT = pairsF h w := List.Perm.eq_of_pairwise (fun a b _ _ h1 h2 => by
    have : a.1 = b.1 ∧ a.2 = b.2 := by omega
    exact Prod.ext this.1 this.2) s1 s2 p1
  refine ⟨?_, ?_, fun x hx => ?_⟩
  · rw [← e]
    exact (zipT_self us).symm
  · rw [← e, List.length_map]
  · obtain ⟨t, ht, rfl⟩ := List.mem_map.mp hx
    obtain ⟨s, hs', rfl⟩ := List.mem_map.mp (inj.mem_iff.mp ht)
    have := (zipT_mem hs').2
    unfold turnT
    split <;> exact this
/-! #### the width of the order by rows -/
theorem rng_idx {n : Nat} {p : Int} (h : p ∈ rngI 0 n) : (posIn (rngI 0 n) p : Int) = p := by
  have hm := rngI_mem.mp h
  have := posIn_at (rngI_nd 0 n) (i := p.toNat) (p := p) (by rw [rngI_get (by omega)]; congr 1; omega)
  omega
theorem flat_open {w h : Nat} {ts : List Tie} (F : FlatFacts w h) (hts : ∀ t ∈ ts, prT t ∈ pairsF w h) {i : Nat} (hi : i < w * h) : (openL ts (rngI 0 (w * h)) i).length ≤ w := by
  have hin : ∀ p ∈ openL ts (rngI 0 (w * h)) i, (i : Int) - (w : Int) < p ∧ p ≤ (i : Int) := fun p hp => by
    unfold openL at hp
    rw [List.mem_filter, List.any_eq_true] at hp
    obtain ⟨hp1, q, hq, hgt⟩ := hp
    have hgt := of_decide_eq_true hgt
    have hpr := List.mem_of_mem_take hp1
    obtain ⟨j, hj⟩ := List.getElem?_of_mem hp1
    have hjl : j < i + 1 := by
      have := (List.getElem?_eq_some_iff.mp hj).1
      rw [List.length_take] at this
      omega
    rw [List.getElem?_take_of_lt hjl, rngI_get (by omega)] at hj
    have hj := Option.some.inj hj
    unfold nb at hq
    obtain ⟨t, ht, c⟩ := List.mem_flatMap.mp hq
    have c : t.1 = p ∧ q = t.2.1 ∨ t.2.1 = p ∧ q = t.1 := by
      split at c
      · rename_i z
        exact .inl ⟨z, List.mem_singleton.mp c⟩
      · split at c
        · rename_i z
          exact .inr ⟨z, List.mem_singleton.mp c⟩
        · cases c
    have hb := pairsF_mem F (hts t ht)
    have hb : 0 ≤ t.1 ∧ t.1 < t.2.1 ∧ t.2.1 < ((w * h : Nat) : Int) ∧ t.2.1 ≤ t.1 + (w : Int) := hb
    have hqr : (posIn (rngI 0 (w * h)) q : Int) = q := rng_idx (rngI_mem.mpr (by omega))
    omega
  have hnd : (openL ts (rngI 0 (w * h)) i).Nodup := ((rngI_nd 0 (w * h)).sublist (List.take_sublist _ _)).sublist (List.filter_sublist)
  have h2 := few_in (n := w) (ks := (openL ts (rngI 0 (w * h)) i).map fun p => p - ((i : Int) - (w : Int) + 1)) (List.pairwise_map.mpr (hnd.imp fun {a b} z e => z (by omega))) fun k hk => by
    obtain ⟨p, hp, rfl⟩ := List.mem_map.mp hk
    have := hin p hp
    omega
  rw [List.length_map] at h2
  exact h2
theorem flat_width {w h : Nat} {ts : List Tie} {m : Int} (F : FlatFacts w h) (hts : ∀ t ∈ ts, prT t ∈ pairsF w h) (hm : m ∈ widths ts (rngI 0 (w * h))) : m ≤ (w : Int) := by
  unfold widths at hm
  obtain ⟨i, hi, rfl⟩ := List.mem_map.mp hm
  rw [List.mem_range, rngI_len] at hi
  have := flat_open F hts hi
  omega
theorem map_if1 {α β : Type} (f : α → β) (c : Bool) (x : α) : (if c = true then [x] else []).map f = if c = true then [f x] else [] := by cases c <;> rfl
theorem flatMap_succ {α : Type} (f : Nat → List α) (i : Nat) : (List.range (i + 1)).flatMap f = (List.range i).flatMap f ++ f i := by
  rw [List.range_succ, List.flatMap_append]
  simp
theorem flatMap_len {α : Type} (f : Nat → List α) (c : Nat) (hc : ∀ i, (f i).length ≤ c) : ∀ i, ((List.range i).flatMap f).length ≤ c * i
  | 0 => Nat.zero_le _
  | i + 1 => by
    have h1 := flatMap_len f c hc i
    have h2 := hc i
    rw [flatMap_succ, List.length_append, Nat.mul_succ]
    omega
abbrev pD (p : Nat × Nat) : PyData := pairD (cst p)
theorem zip_pairs (ps : List (Int × Int)) (ws : List Int) : zipD (ps.map pairD) (ws.map PyData.int) = (ps.zip ws).map fun x => .tuple [pairD x.1, .int x.2] := by
  unfold zipD
  rw [List.zip_map, List.map_map]
  rfl
def fFlat (ds : List PyData) (d : PyData) : Prop := ∃ (w h : Nat) (t : Bool) (ws : List Int), ds = [.int (w : Int), .int (h : Int), seqD t (ws.map PyData.int)] ∧ 1 ≤ w ∧ w ≤ 30 ∧ 1 ≤ h ∧ h ≤ 30 ∧ ws.length ≤ 2000 ∧ d = webD ((w * h : Nat) : Int) (zipT (pairsF w h) ws)
theorem args3 {K : PySem.W.Frag} {B : Hp} {vs : List V} {a b c : PyData} (h : DqAll K B vs [a, b, c]) : ∃ v1 v2 v3, vs = [v1, v2, v3] ∧ Dq K B v1 a ∧ Dq K B v2 b ∧ Dq K B v3 c := by
  cases h with
  | cons h1 t => cases t with
    | cons h2 t => cases t with
      | cons h3 t => cases t; exact ⟨_, _, _, rfl, h1, h2, h3⟩
theorem Order.rng (n : Int) : Order n (rngI 0 n.toNat) := ⟨List.Perm.refl _⟩
end Pw

/-! ## PwCallV -/
namespace Pw
open PySem PySem.Spec PyProof.Rows L2 Evl

/-! ### a call of one of some defs: what stands in a list -/
def tDyn (L : List (Addr × Sp)) (tf : TE) (t : TA) : TE := fun σ H Q => tf σ H fun x H1 => ∃ p ∈ L, x = .ref p.1 ∧ t σ H1 fun vs H2 => p.2 vs H2 Q E0
def GoodC (X : Cx) (p : Addr × Sp) : Prop := ∃ (k : Nat) (fd : FuncData) (ps : List Str), FnOk X.prog X.w X.K X.mg X.base CX0 k p.1 fd ps p.2 ∧ Room k X.A ∧ PySem.W.keepIn X.K (.ref p.1) = true ∧ Binds X.K fd ps []
section
variable {X : Cx} {L : List (Addr × Sp)} {k : Nat} {f : Addr} {fd : FuncData} {ps : List Str} {sp : Sp} {fe e : Expr} {es : List Expr} {tf : TE} {t : TA} {pos : Pos}
theorem gnil : ∀ p ∈ ([] : List (Addr × Sp)), GoodC X p := fun p h => by cases h
theorem gcons (F : FnOk X.prog X.w X.K X.mg X.base CX0 k f fd ps sp) (hr : Room k X.A) (hk : PySem.W.keepIn X.K (.ref f) = true) (hb : Binds X.K fd ps []) (h : ∀ p ∈ L, GoodC X p) : ∀ p ∈ (f, sp) :: L, GoodC X p := fun p hp => by
  rcases List.mem_cons.mp hp with rfl | hp
  · exact ⟨k, fd, ps, F, hr, hk, hb⟩
  · exact h p hp
theorem pe_callV (hL : ∀ p ∈ L, GoodC X p) (hf : PE X fe tf) (ha : PA X (e :: es) t)
    (h1 : eval (.Call fe (e :: es) [] pos) X.env = (do callWith pos (← eval fe X.env) [] (backTo pos (starEach (e :: es) X.env)) (backToKw pos (keywordEach [] X.env))) := by rfl)
    (h2 : starEach (e :: es) X.env = (false, eval e X.env) :: starEach es X.env := by rfl) (h3 : (backTo pos (starEach es X.env)).any (·.1) = false := by rfl) : PE X (.Call fe (e :: es) [] pos) (tDyn L tf t) :=
  ⟨fun pins s σ H Q I h => Call_ (thn (hf.run pins s σ H _ I h) fun u s1 ⟨x, HH, I1, rx, p, hp, ex, q⟩ => by
    subst ex
    obtain ⟨kk, fd', ps', F, hr, hk, hb⟩ := hL p hp
    obtain rfl : u = Value.ref p.1 := rx
    exact PySem.W.callWith_K (h₀ := X.base) I1.ok.mod.kin hk (thn (ha.run pos pins s1 σ HH _ I1 q) fun us s2 ⟨vs, HI, I2, rv, q2⟩ => ⟨I2.kIn, run_fn (dvs := []) F hr hb .nil pass0 I2 rv (by rw [List.append_nil]; exact q2)⟩) h2 h3) h1⟩
end

/-! ### len(set(ints)) -/
def tLenSet (K : PySem.W.Frag) (ta : TE) : TE := fun σ H Q => ta σ H fun x H1 => ∃ (l : Addr) (ns : List Int), x = V.ref l ∧ SqL K H1 l (ns.map V.int) ∧ ns.length ≤ 4000 ∧ ∀ ds : List Int, ds.Nodup → (∀ k, k ∈ ds ↔ k ∈ ns) → Q (.int ds.length) H1
theorem met_nd (val : Nat → Int) : ∀ i, (PyProof.Rows.firstMet val i).Nodup
  | 0 => List.nodup_nil
  | i + 1 => by
    have ih := met_nd val i
    rw [PyProof.Rows.firstMet_succ]
    unfold PyProof.Rows.step_dedup
    split
    · exact ih
    · rename_i c
      refine List.nodup_append.mpr ⟨ih, by simp, fun a ha b hb z => c ?_⟩
      rw [List.any_eq_true]
      exact ⟨a, ha, by rw [z, List.mem_singleton.mp hb]; exact beq_self_eq_true _⟩
theorem met_mem (ns : List Int) (k : Int) : k ∈ PyProof.Rows.firstMet (fun i => ns.getD i 0) ns.length ↔ k ∈ ns := by
  have h := PyProof.Rows.firstMet_any (fun i => ns.getD i 0) ns.length k
  have e : (List.range ns.length).map (fun i => ns.getD i 0) = ns := by
    refine List.ext_getElem (by simp) fun i h1 h2 => ?_
    simp [h2]
  rw [e] at h
  have m : ∀ l : List Int, (l.any (· == k)) = true ↔ k ∈ l := fun l => by
    rw [List.any_eq_true]
    exact ⟨fun ⟨x, hx, z⟩ => by rw [← beq_iff_eq.mp z]; exact hx, fun hk => ⟨k, hk, beq_self_eq_true _⟩⟩
  rw [← m, ← m, h]
theorem pe_lenSet {X : Cx} {a : Expr} {ta : TE} {p p2 q pos : Pos} (hc : X.calm = true) (hg : Gl X "len") (hm : X.mg "len" = none) (hg2 : Gl X "set") (hm2 : X.mg "set" = none) (ha : PE X a ta)
    (h1 : starEach [a] X.env = (false, eval a X.env) :: starEach [] X.env := by rfl) : PE X (.Call (.Name "len" p) [.Call (.Name "set" p2) [a] [] q] [] pos) (tLenSet X.K ta) :=
  ⟨fun pins s σ H Q I h => Call_ (ld_blt I hg hm PySem.boot_len (PyProof.Rows.callWith_builtin1 (PyProof.Rows.args_cons (Call_ (ld_blt I hg2 hm2 PyProof.Rows.boot_set (PyProof.Rows.callWith_type1 (PyProof.Rows.args_cons (thn (ha.run pins s σ H _ I h) fun v s1 ⟨x, HH, I1, rx, l, ns, ex, hq, hl, q1⟩ => PyProof.Rows.args_nil (by
    subst ex
    cases rx
    obtain ⟨its, r, pl, hz⟩ := I1.list hq
    have hsz : its.toArray.size = ns.length := by rw [List.size_toArray, ← r.length, List.length_map]
    exact call_set_list (I1.ok.hd hc) pl.isList (ns := ns) (by simpa using r.ints) (by rw [hsz]; show ns.length + 1 < 4096; omega) fun hh tk hS hk => PyProof.Rows.args_nil (by
      rw [hsz] at hS
      obtain ⟨o, es, ep, tt, ho, hex, hd, _, _, _, hf, hn⟩ := hS
      have I2 : Inv X pins σ HH { s1 with heap := hh, toks := tk } := I1.kept fun b o e => hk b o (Heap.lt_size e) e
      have hfew := PyProof.Rows.firstMet_length_le (fun i => ns.getD i 0) ns.length
      exact call_len_set ho hex hd hf (by rw [hn]; omega) ⟨.int (PyProof.Rows.firstMet (fun i => ns.getD i 0) ns.length).length, HH, I2.tok _, ⟨_, by rw [hn]⟩, q1 _ (met_nd _ _) (met_mem ns)⟩))) h1) h1 rfl))) rfl) rfl rfl))⟩
section
variable {K : PySem.W.Frag} {σ : L2.St} {B H : Hp} {S : List Addr} {te : TE}
theorem ev_lenSet {ns ds : List Int} (h : EvD K te σ B (.list (ns.map .int))) (hl : ns.length ≤ 4000) (hd : ds.Nodup) (hm : ∀ k, k ∈ ds ↔ k ∈ ns) : EvD K (tLenSet K te) σ B (.int (ds.length : Nat)) :=
  evR_of (fun S H w Q q => h.bind w fun x B1 H1 e1 eB1 w1 rx => by
    cases rx with
    | @lst a xs _ hs hdd =>
    have e := DqAll.ints_eq hdd
    subst e
    refine ⟨a, ns, rfl, ex_l w1.ex hs, hl, fun ds2 g1 g2 => ?_⟩
    have e2 : ds2.length = ds.length := ((List.perm_ext_iff_of_nodup g1 hd).mpr fun k => (g2 k).trans (hm k).symm).length_eq
    rw [e2]
    exact q _ B1 H1 e1 eB1 w1 (.int _)) stays_dp
theorem ev_revL {ds : List PyData} (h : EvD K te σ B (.list ds)) : EvD K (tRevL K te) σ B (.list ds.reverse) :=
  evR_of (fun S H w Q q => h.bind w fun x B1 H1 e1 eB1 w1 rx => by
    cases rx with
    | @lst a xs _ hs hd =>
    have hr : ∀ {vs : List V} {ds : List PyData}, DqAll K B1 vs ds → DqAll K B1 vs.reverse ds.reverse := by
      intro vs
      induction vs with
      | nil => intro ds h; cases h; exact .nil
      | cons v vs ih =>
        intro ds h
        cases h with
        | cons h1 h2 =>
          rw [List.reverse_cons, List.reverse_cons]
          exact DqAll.snoc (ih h2) h1
    exact ⟨a, xs, rfl, ex_l w1.ex hs, fun p hp => q (.ref p) _ _ (e1.trans (Ex.new hp)) (eB1.trans (w1.newE (o := .lst xs.reverse) hp)) (w1.new hp) (.lst (sq_of upd_same) (DqAll.mono (w1.newE hp) (hr hd)))⟩) stays_dp
end
end Pw

/-! ## PwOwn -/
namespace Pw
open PySem L2 Evl
section
variable {K : PySem.W.Frag} {σ : L2.St} {B H H' : Hp} {S : List Addr} {b : Addr} {k m c : Nat} {te ta tb tl : TE} {tt : TT} {tA : TA} {wi : TI} {g : TG} {R R' : V → Hp → Prop} {ds es : List PyData} {tu : TS} {D : Ends}
/-- [e for x in l if t]: a list of one's own -/
theorem lc_ownP {α : Type} (l : List α) (enc : α → PyData) (f : α → Bool) (e : α → PyData) {vs : List Nat} (hk : WkD K wi σ B (l.map enc)) (hl : l.length ≤ 40000) (turn : ∀ a ∈ l, TurnLc K g tt te σ vs B (enc a) (f a) (e a))
    (w : Wd S B H) {Q : VK} (q : ∀ a xs B' H', H a = none → Ex H H' → Ex B B' → Wd (a :: S) B' H' → H' a = some (.lst xs) → DqAll K B' xs ((l.filter f).map e) → Q (.ref a) H') : tLc wi g tt te vs σ H Q := by
  refine hk S H w _ fun J B1 H1 e1 eB1 w1 hgo hstop hyld Dl hD => ?_
  rw [List.length_map] at hgo hstop hyld
  refine ⟨fun i m H' => m = l.length - i ∧ i ≤ l.length ∧ Ex H1 H' ∧ ∃ B' acc, Ex B1 B' ∧ Wd (Dl :: S) B' H' ∧ H' Dl = some (.lst acc) ∧ DqAll K B' acc (((l.take i).filter f).map e), ⟨l.length, by omega, Nat.zero_le _, Ex.new hD, B1, [], Ex.refl _, w1.own hD, upd_same, .nil⟩, ?_⟩
  rintro i m H2 ⟨rfl, hi, eH, B2, acc, eB2, w2, hA, hd⟩
  by_cases hlt : i < l.length
  · obtain ⟨a, ha⟩ : ∃ a, l[i]? = some a := ⟨l[i], List.getElem?_eq_getElem hlt⟩
    have hmem : a ∈ l := List.mem_of_getElem? ha
    refine .inr ⟨hgo i H2 (eB2.trans w2.ex) hlt, fun H' => ∃ B', ∃ acc, Ex H1 H' ∧ Ex B1 B' ∧ Wd (Dl :: S) B' H' ∧ H' Dl = some (.lst acc) ∧ DqAll K B' acc (((l.take (i + 1)).filter f).map e), fun H' ⟨B', acc, h1, h2, h3, h4, h5⟩ => ⟨l.length - (i + 1), by omega, rfl, by omega, h1, B', acc, h2, h3, h4, h5⟩, fun x H3 hy => ?_⟩
    obtain ⟨B3, e3, eB3, w3, d, hd1, hd2⟩ := hyld i (Dl :: S) B2 H2 x H3 eB2 w2 hlt hy
    have ed : enc a = d := by
      rw [List.getElem?_map, ha] at hd1
      exact Option.some.inj hd1
    subst ed
    have htk : l.take (i + 1) = l.take i ++ [a] := by rw [List.take_add_one, ha]; rfl
    have hA3 := e3 _ _ hA
    refine turn a hmem x (Dl :: S) B3 H3 (eB1.trans (eB2.trans eB3)) w3 hd2 _ _ (fun hf y B4 H4 e4 eB4 w4 hy4 => ?_) (fun hf B4 H4 e4 eB4 w4 => ?_)
    · have hlen : acc.length ≤ l.length := by
        rw [DqAll.length hd, List.length_map]
        refine Nat.le_trans (List.length_filter_le _ _) ?_
        rw [List.length_take]
        exact Nat.min_le_right _ _
      refine ⟨acc, e4 _ _ hA3, sz_lt (by omega), B4, acc ++ [y], ?_, eB2.trans (eB3.trans eB4), w4.put List.mem_cons_self, upd_same, ?_⟩
      · exact (eH.trans (e3.trans e4)).mut hD
      · rw [htk, List.filter_append, List.filter_cons, if_pos hf, List.map_append]
        exact DqAll.snoc (DqAll.mono (eB3.trans eB4) hd) hy4
    · refine ⟨B4, acc, eH.trans (e3.trans e4), eB2.trans (eB3.trans eB4), w4, e4 _ _ hA3, ?_⟩
      rw [htk, List.filter_append, List.filter_cons, if_neg (by rw [hf]; decide)]
      show DqAll K B4 acc ((List.filter f (l.take i) ++ []).map e)
      rw [List.append_nil]
      exact DqAll.mono (eB3.trans eB4) hd
  · have ei : i = l.length := by omega
    subst ei
    rw [List.take_length] at hd
    exact .inl ⟨hstop _ H2 (eB2.trans w2.ex) rfl, q Dl acc B2 H2 (fresh_back e1 hD) (e1.trans eH) (eB1.trans eB2) w2 hA hd⟩
theorem ev_lcDL {α : Type} (l : List α) (enc : α → PyData) (f : α → Bool) (e : α → PyData) {vs : List Nat} (hk : WkD K wi σ B (l.map enc)) (hl : l.length ≤ 40000) (turn : ∀ a ∈ l, TurnLc K g tt te σ vs B (enc a) (f a) (e a)) :
    EvR (tLc wi g tt te vs) σ B (DL K ((l.filter f).map e)) :=
  evR_of (fun S H w Q q => lc_ownP l enc f e hk hl turn w fun a xs B1 H1 ha e1 eB1 w1 hA hd => q (.ref a) _ H1 e1 (eB1.trans w1.giveE) (w1.give hA (w.nin ha)) ⟨a, xs, rfl, upd_same, DqAll.mono w1.giveE hd⟩) stays_DL
/-- .. of which a part draws -/
theorem lc_own {α β : Type} (l : List α) (enc : α → PyData) (encY : β → PyData) (Pr : Nat → List β → Prop) {vs : List Nat} (hk : WkD K wi σ B (l.map enc)) (hl : l.length ≤ 40000) (h0 : Pr 0 []) (hlen : ∀ i ys, Pr i ys → ys.length ≤ i)
    (turn : ∀ i a ys, l[i]? = some a → Pr i ys → ∀ x S' B' H' c', Ex B B' → Wd S' B' H' → b ∈ S' → BoxAt H' b c' → c' + k ≤ lid → Dq K B' x (enc a) → ∀ (Qy : VK) (Qn : Hp → Prop),
      (∀ y yv B2 H2, Xs [b] H' H2 → BoxAt H2 b (c' + k) → Wd S' B2 H2 → Ex B' B2 → Dq K B2 yv (encY y) → Pr (i + 1) (ys ++ [y]) → Qy yv H2) → (Pr (i + 1) ys → ∀ B2 H2, Xs [b] H' H2 → BoxAt H2 b (c' + k) → Wd S' B2 H2 → Ex B' B2 → Qn H2) →
      g x (wipe σ vs) H' fun σ2 H2 => wipe σ2 vs = wipe σ vs ∧ tt σ2 H2 fun b H3 => if b = true then te σ2 H3 Qy else Qn H3)
    (w : Wd S B H) (hb : b ∈ S) (hB : BoxAt H b c) (hlid : c + l.length * k ≤ lid) {Q : VK} (q : ∀ a xs ys B' H', H a = none → Xs [b] H H' → BoxAt H' b (c + l.length * k) → Ex B B' → Wd (a :: S) B' H' → H' a = some (.lst xs) → Pr l.length ys → DqAll K B' xs (ys.map encY) → Q (.ref a) H') : tLc wi g tt te vs σ H Q := by
  refine hk S H w _ fun J B1 H1 e1 eB1 w1 hgo hstop hyld Dl hD => ?_
  rw [List.length_map] at hgo hstop hyld
  have nbD : Dl ≠ b := fun z => by
    obtain ⟨o, ho⟩ := (hB.ex e1).some
    rw [← z, hD] at ho
    cases ho
  refine ⟨fun i m H' => m = l.length - i ∧ i ≤ l.length ∧ Xs [b] H1 H' ∧ BoxAt H' b (c + i * k) ∧ ∃ B' acc ys, Ex B1 B' ∧ Wd (Dl :: S) B' H' ∧ H' Dl = some (.lst acc) ∧ Pr i ys ∧ DqAll K B' acc (ys.map encY),
    ⟨l.length, by omega, Nat.zero_le _, Xs.of (Ex.new hD), ((hB.ex e1).ex (Ex.new hD)).mono (by omega), B1, [], [], Ex.refl _, w1.own hD, upd_same, h0, .nil⟩, ?_⟩
  rintro i m H2 ⟨rfl, hi, xH, hB2, B2, acc, ys, eB2, w2, hA, hP, hd⟩
  by_cases hlt : i < l.length
  · obtain ⟨a, ha⟩ : ∃ a, l[i]? = some a := ⟨l[i], List.getElem?_eq_getElem hlt⟩
    have hmul : (i + 1) * k ≤ l.length * k := Nat.mul_le_mul_right k hlt
    have hsuc : (i + 1) * k = i * k + k := Nat.succ_mul i k
    refine .inr ⟨hgo i H2 (eB2.trans w2.ex) hlt, fun H' => Xs [b] H1 H' ∧ BoxAt H' b (c + (i + 1) * k) ∧ ∃ B' acc ys, Ex B1 B' ∧ Wd (Dl :: S) B' H' ∧ H' Dl = some (.lst acc) ∧ Pr (i + 1) ys ∧ DqAll K B' acc (ys.map encY), fun H' ⟨h1, h2, h3⟩ => ⟨l.length - (i + 1), by omega, rfl, by omega, h1, h2, h3⟩, fun x H3 hy => ?_⟩
    obtain ⟨B3, e3, eB3, w3, d, hd1, hd2⟩ := hyld i (Dl :: S) B2 H2 x H3 eB2 w2 hlt hy
    have ed : enc a = d := by
      rw [List.getElem?_map, ha] at hd1
      exact Option.some.inj hd1
    subst ed
    have hA3 := e3 _ _ hA
    have hlen2 : acc.length ≤ 40000 := by
      have := hlen _ _ hP
      rw [DqAll.length hd, List.length_map]
      omega
    refine turn i a ys ha hP x (Dl :: S) B3 H3 (c + i * k) (eB1.trans (eB2.trans eB3)) w3 (List.mem_cons_of_mem _ hb) (hB2.ex e3) (by omega) hd2 _ _ (fun y yv B4 H4 x4 hB4 w4 eB4 hy4 hP4 => ?_) (fun hP4 B4 H4 x4 hB4 w4 eB4 => ?_)
    · have hA4 := x4 _ _ (fun z => nbD (List.mem_singleton.mp z)) hA3
      refine ⟨acc, hA4, sz_lt (by omega), ?_, (hB4.mono (by omega)).upd nbD.symm, B4, acc ++ [yv], ys ++ [y], eB2.trans (eB3.trans eB4), w4.put List.mem_cons_self, upd_same, hP4, ?_⟩
      · intro p o hp ho
        rw [upd_ne (ne_of_none ho hD)]
        exact x4 p o hp (e3 _ _ (xH p o hp ho))
      · rw [List.map_append]
        exact DqAll.snoc (DqAll.mono (eB3.trans eB4) hd) hy4
    · exact ⟨xH.trans ((Xs.of e3).trans x4), hB4.mono (by omega), B4, acc, ys, eB2.trans (eB3.trans eB4), w4, x4 _ _ (fun z => nbD (List.mem_singleton.mp z)) hA3, hP4, DqAll.mono (eB3.trans eB4) hd⟩
  · have ei : i = l.length := by omega
    subst ei
    exact .inl ⟨hstop _ H2 (eB2.trans w2.ex) rfl, q Dl acc ys B2 H2 (fresh_back e1 hD) ((Xs.of e1).trans xH) hB2 (eB1.trans eB2) w2 hA hP hd⟩
end
end Pw

/-! ## K43_law_ring -/
namespace Pw
open PySem L2 Evl
structure RingOf (n : Int) (ts : List Tie) : Prop where
  ins : TiesIn n ts
  len : ts.length ≤ 60
  kind : ∀ t ∈ ts, t.2.1 = t.1 + 1 ∨ t.1 = 0
  next : ∀ p, 0 ≤ p → p + 1 < n → ∃ t ∈ ts, t.1 = p ∧ t.2.1 = p + 1
  back : n > 2 → ∃ t ∈ ts, t.1 = 0 ∧ t.2.1 = n - 1
def spRing (K : PySem.W.Frag) : Sp := fun vs H Q _ => ∃ (S : List Addr) (b : Addr) (n : Int) (c : Nat), vs = [.ref b, .int n] ∧ b ∈ S ∧ (∀ s ∈ S, ∃ o, H s = some o) ∧ BoxAt H b c ∧ c + 1000 < 2 ^ 40 ∧ 1 ≤ n ∧ n ≤ 60 ∧
  ∀ v H' ts, RingOf n ts → Dq K (mi H' S) v (webD n ts) → Bx b (c + 1000) H H' → Q v H'
section
variable {P : Program} {w : World} {K : PySem.W.Frag} {mg : Str → Option Value} {base : Heap}
theorem sc_law_ring : FnScope nm_law_ring ps_law_ring (defScope s_law_ring) := ⟨rfl, rfl, rfl, by decide +kernel, rfl, by decide +kernel, by decide +kernel⟩
theorem ok_law_ring {f : Addr} {fd : FuncData} (T : Txt mg) (Ds : Defs K mg) (D : Dfn K mg "_law_ring" s_law_ring ps_law_ring f fd) : FnOk P w K mg base CX0 3 f fd ps_law_ring (spRing K) := by
  obtain ⟨f_law_weight, fd_law_weight, D_law_weight⟩ := Ds.d_law_weight
  have G_law_weight := ok_law_weight (P := P) (w := w) (base := base) T Ds D_law_weight
  refine D.F.ok sc_law_ring (fun vs H Q E h => ?_) (fun cdv A0 outer s H vs Q E hr h => ?_)
  · obtain ⟨S, b, n, c, rfl, _⟩ := h
    rfl
  · obtain ⟨S, b, n, c, rfl, hbS, hSd, hb, hc, hn1, hn, q⟩ := h
    have hr_law_weight := hr.mono (show 2 ≤ 2 by decide)
    refine ⟨_, (pss_cons (ps_setLc (i := 2) (own := [("_law_place", 3)]) (g := (gName 3)) (by rfl) sc_law_ring.nd rfl rfl (sw_true rfl rfl rfl (by decide +kernel)) (pi_range1 (by rfl) T.m_range (pa_cons (pe_op op_sub (pv 1) pe_int) pa_nil)) (blkOk_by (own := [("_law_place", 3)]) (N := nm_law_ring) (sc := defScope s_law_ring) (by decide +kernel)) (fun _ _ _ _ _ => (pg_name (i := 3) sc_law_ring.nd rfl (Or.inl rfl))) (fun _ _ _ _ _ => pts_nil) (fun _ _ _ _ _ => (pe_tup (pa_cons (pv 3) (pa_cons (pe_op op_add (pv 3) pe_int) (pa_cons (pe_call G_law_weight hr_law_weight (by rfl) D_law_weight.g D_law_weight.F.kp D_law_weight.b .nil pass0 (pa_cons (pv 0) (pa_cons pe_int pa_nil))) pa_nil))))))
      (pss_cons (ps_if (pt_cmpR op_gt (pv 1) pe_int (nomark _))
        (pss_one (ps_expr (pe_bm PySem.F.plainAttrs_list PySem.F.slot_list_append PySem.F.type_list_append mt_append (pv 2) (pa_cons (pe_tup (pa_cons pe_int (pa_cons (pe_op op_sub (pv 1) pe_int) (pa_cons (pe_call G_law_weight hr_law_weight (by rfl) D_law_weight.g D_law_weight.F.kp D_law_weight.b .nil pass0 (pa_cons (pv 0) (pa_cons pe_int pa_nil))) pa_nil)))) pa_nil))))
        pss_nil)
      (pss_one (ps_ret (pe_tup (pa_cons (pv 1) (pa_cons (pe_callTy call_tuple_of (by rfl) T.m_tuple (by decide +kernel) (pa_cons (pe_callB (cr_sortedTI hr.units) (by rfl) T.m_sorted (by decide +kernel) (pa_cons (pv 2) pa_nil)) pa_nil)) pa_nil))))))), ?_⟩
    have w0 : Wd S (mi H S) H := ⟨mi_ex, fun s m => mi_no m, hSd⟩
    refine st_seq ?_
    refine st_set ?_
    refine lc_own (K := K) (b := b) (k := 3) (rngI 0 (n - 1).toNat) PyData.int tieD (fun i (ys : List Tie) => ys.length = i ∧ (∀ t ∈ ys, 0 ≤ t.1 ∧ t.1 < (i : Int) ∧ t.2.1 = t.1 + 1) ∧ ∀ p, 0 ≤ p → p < (i : Int) → ∃ t ∈ ys, t.1 = p ∧ t.2.1 = p + 1) (wk_rng1 (ea_cons (ev_sub (ev_var rfl (.int n)) ev_int) ea_nil) (by omega)) (by rw [rngI_len]; omega) ⟨rfl, (fun t h => by cases h), fun p h1 h2 => by omega⟩ (fun i ys h => by omega)
      (fun i a ys ha hP x S' B' H' c' eB' w' hb' hB' hl' hx Qy Qn hy hnn => ⟨rfl, ?turn⟩) w0 hbS hb (by rw [rngI_len]; unfold lid; omega) fun U xs us B1 H1 hU x1 hB1 eB1 w1 hU1 ⟨hul, hus, hun⟩ hxs => ?rest
    case turn =>
      have hil := (List.getElem?_eq_some_iff.mp ha).1
      rw [rngI_len] at hil
      have ek : a = (i : Int) := by
        rw [rngI_get hil] at ha
        have := Option.some.inj ha
        omega
      subst ek
      cases hx
      refine ⟨_, rfl, _, rfl, _, _, rfl, rfl, _, rfl, b, 1, c', rfl, hB', by unfold lid at hl'; omega, by decide, by decide, fun wt H4 g1 g2 hb4 => ⟨Nat.le_of_ble_eq_true rfl, fun r hr4 => ?_⟩⟩
      obtain ⟨w4, eB4⟩ := w'.bx hb' hb4
      refine hy ((i : Int), (i : Int) + 1, wt) (.ref r) _ _ (hb4.x.trans (Xs.of (Ex.new hr4))) ((hb4.at_.ex (Ex.new hr4)).mono (by omega)) (w4.new (o := .tup [.int (i : Int), .int ((i : Int) + 1), .int wt]) hr4) (eB4.trans (w4.newE hr4)) (.tup upd_same (.cons (.int _) (.cons (.int _) (.cons (.int _) .nil)))) ⟨by rw [List.length_append, hP.1]; rfl, fun t ht => ?_, fun p h1 h2 => ?_⟩
      · rcases List.mem_append.mp ht with ht | ht
        · have := hP.2.1 t ht
          omega
        · rw [List.mem_singleton.mp ht]
          refine ⟨?_, ?_, rfl⟩
          · show 0 ≤ (i : Int); omega
          · show (i : Int) < ((i + 1 : Nat) : Int); omega
      · by_cases z : p = (i : Int)
        · exact ⟨_, List.mem_append_right _ (List.mem_singleton.mpr rfl), z.symm, by rw [z]⟩
        · obtain ⟨t, ht, e1, e2⟩ := hP.2.2 p h1 (by omega)
          exact ⟨t, List.mem_append_left _ ht, e1, e2⟩
    case rest =>
    rw [rngI_len] at hul hus hun hB1
    have nUb : U ≠ b := fun z => by
      obtain ⟨o, ho⟩ := hb.some
      rw [← z, hU] at ho
      cases ho
    have hbU : b ∈ U :: S := List.mem_cons_of_mem _ hbS
    have hb1 : Bx b (c + 200) H H1 := ⟨x1, hB1.mono (by omega)⟩
    dsimp only
    refine st_seq ?_
    -- the last statement, from any list of ties
    have fin : ∀ (ds : List Tie) (ys : List V) (B5 H5 : Hp), Wd (U :: S) B5 H5 → H5 U = some (.lst ys) → DqAll K B5 ys (ds.map tieD) → (∀ ts : List Tie, ts.Perm ds → RingOf n ts) → Bx b (c + 300) H H5 → ∀ {σ : L2.St}, σ[1]? = some (some (V.int n)) → σ[2]? = some (some (V.ref U)) →
        tTup (tCons (tVar 1) (tCons (tCB (rTupleS K) (tCons (tCB (rSortTI K) (tCons (tVar 2) tNil)) tNil)) tNil)) σ H5 Q := fun ds ys B5 H5 w5 hU5 hys hring hb5 σ g1 g2 => by
      have w6 := w5.give hU5 (w0.nin hU)
      have hUd : Dq K (upd B5 U (.lst ys)) (.ref U) (.list (ds.map tieD)) := .lst (sq_of upd_same) (DqAll.mono w5.giveE hys)
      obtain ⟨ls, hs⟩ := sorts_ex (ds.map tieL)
      obtain ⟨ts, hp', rfl⟩ := sorts_ties hs.1
      have ed : (ds.map tieL).map tupI = ds.map tieD := by rw [List.map_map]; rfl
      have ed2 : (ts.map tieL).map tupI = ts.map tieD := by rw [List.map_map]; rfl
      refine (ev_tup (K := K) (ea_cons (ev_var g1 (.int n)) (ea_cons (ev_tuple (t := false) ((ev_sortsTI (ks := ds.map tieL) (by rw [ed]; exact ev_var g2 hUd) (fun k hk => ?ne) hs).imp fun v B' h => by rw [← ed2]; exact h.dq)) ea_nil)) (Nat.le_of_ble_eq_true rfl)).bind w6 fun v B7 H7 e7 eB7 w7 h7 => q v H7 ts (hring ts hp') (Dq.mono (ex_mi w7.ex w7.no) h7) ((hb5.ext e7).mono (by omega))
      obtain ⟨t, _, rfl⟩ := List.mem_map.mp hk
      exact List.cons_ne_nil _ _
    refine st_if w1 (eb_test (K := K) (ev_cmp (ev_var rfl (.int n)) ev_int)) (fun hgt B2 H2 e2 eB2 w2 => ?_) fun hle B2 H2 e2 eB2 w2 => ?_
    · have hgt : n > 2 := of_decide_eq_true hgt
      have hb2 := hb1.ext e2
      have hU2 := e2 _ _ hU1
      refine ⟨_, rfl, .inl ⟨rfl, _, sq_of hU2⟩, _, rfl, _, _, rfl, rfl, _, rfl, b, 1, _, rfl, hb2.at_, by omega, by decide, by decide, fun wt H4 g1 g2 hb4 => ⟨Nat.le_of_ble_eq_true rfl, fun r hr4 => ?_⟩⟩
      obtain ⟨w4, eB4⟩ := w2.bx hbU hb4
      have hU4 := (Ex.new (o := .tup [.int 0, .int (n - 1), .int wt]) hr4) _ _ (hb4.at nUb hU2)
      have w5 := w4.new (o := .tup [.int 0, .int (n - 1), .int wt]) hr4
      have eN := w4.newE (o := .tup [.int 0, .int (n - 1), .int wt]) hr4
      have hxl := DqAll.length hxs
      rw [List.length_map] at hxl
      refine ⟨U, xs, .ref r, rfl, rfl, hU4, sz_lt (by omega), ?_⟩
      dsimp only
      refine fin (us ++ [(0, n - 1, wt)]) (xs ++ [.ref r]) _ _ (w5.put List.mem_cons_self) upd_same ?_ (fun ts hp => ?_) (((hb2.trans hb4).new hr4).own hU nUb.symm |>.mono (by omega)) (σ := [some (.ref b), some (.int n), some (.ref U), none]) rfl rfl
      · rw [List.map_append]
        exact DqAll.snoc (DqAll.mono (eB2.trans (eB4.trans eN)) hxs) (.tup upd_same (.cons (.int _) (.cons (.int _) (.cons (.int _) .nil))))
      · have hm : ∀ {t : Tie}, t ∈ ts ↔ t ∈ us ∨ t = (0, n - 1, wt) := fun {t} => by rw [hp.mem_iff, List.mem_append, List.mem_singleton]
        refine ⟨fun t ht => ?_, by rw [hp.length_eq, List.length_append]; show us.length + 1 ≤ 60; omega, fun t ht => ?_, fun p h1 h2 => ?_, fun _ => ⟨_, hm.mpr (.inr rfl), rfl, rfl⟩⟩
        · rcases hm.mp ht with ht | rfl
          · have := hus t ht
            omega
          · show 0 ≤ (0 : Int) ∧ (0 : Int) < n - 1 ∧ n - 1 < n
            omega
        · rcases hm.mp ht with ht | rfl
          · exact .inl (hus t ht).2.2
          · exact .inr rfl
        · obtain ⟨t, ht, e⟩ := hun p h1 (by omega)
          exact ⟨t, hm.mpr (.inl ht), e⟩
    · have hle : ¬ n > 2 := of_decide_eq_false hle
      refine st_next ?_
      dsimp only
      refine fin us xs B2 H2 w2 (e2 _ _ hU1) (DqAll.mono eB2 hxs) (fun ts hp => ?_) ((hb1.ext e2).mono (by omega)) (σ := [some (.ref b), some (.int n), some (.ref U), none]) rfl rfl
      refine ⟨fun t ht => ?_, by rw [hp.length_eq]; omega, fun t ht => .inl (hus t (hp.mem_iff.mp ht)).2.2, fun p h1 h2 => ?_, fun z => absurd z hle⟩
      · have := hus t (hp.mem_iff.mp ht)
        omega
      · obtain ⟨t, ht, e⟩ := hun p h1 (by omega)
        exact ⟨t, hp.mem_iff.mpr ht, e⟩
end
end Pw

/-! ## K43_law_order -/
namespace Pw
open PySem L2 Evl
/-- an order of the web's places -/
def spOrder (K : PySem.W.Frag) : Sp := fun vs H Q _ => ∃ (S : List Addr) (b : Addr) (vw : V) (n : Int) (ts : List Tie) (c : Nat), vs = [.ref b, vw] ∧ b ∈ S ∧ (∀ s ∈ S, ∃ o, H s = some o) ∧ Dq K (mi H S) vw (webD n ts) ∧ 0 ≤ n ∧ n ≤ 60 ∧ BoxAt H b c ∧ c + 100 < 2 ^ 40 ∧
  ∀ v H' order, Order n order → Dq K (mi H' S) v (.list (order.map .int)) → Bx b (c + 100) H H' → Q v H'
theorem Order.rng' {n : Int} (h : 0 ≤ n) : Order n (rngI 0 n.toNat) := ⟨List.Perm.refl _⟩
section
variable {P : Program} {w : World} {K : PySem.W.Frag} {mg : Str → Option Value} {base : Heap}
theorem sc_law_order : FnScope nm_law_order ps_law_order (defScope s_law_order) := ⟨rfl, rfl, rfl, by decide +kernel, rfl, by decide +kernel, by decide +kernel⟩
theorem ok_law_order {f : Addr} {fd : FuncData} (T : Txt mg) (Ds : Defs K mg) (D : Dfn K mg "_law_order" s_law_order ps_law_order f fd) : FnOk P w K mg base CX0 2 f fd ps_law_order (spOrder K) := by
  obtain ⟨f_law_take, fd_law_take, D_law_take⟩ := Ds.d_law_take
  have G_law_take := ok_law_take (P := P) (w := w) (base := base) T Ds D_law_take
  refine D.F.ok sc_law_order (fun vs H Q E h => ?_) (fun cdv A0 outer s H vs Q E hr h => ?_)
  · obtain ⟨S, b, vw, n, ts, c, rfl, _⟩ := h
    rfl
  · obtain ⟨S, b, vw, n, ts, c, rfl, hbS, hSd, hw, hn0, hn, hb, hc, q⟩ := h
    have hr_law_take := hr.mono (show 1 ≤ 1 by decide)
    refine ⟨_, (pss_cons (ps_set (i := 2) sc_law_order.nd rfl (Or.inr rfl) (pe_callTy (call_list_rng rfl) (by rfl) T.m_list (by decide +kernel) (pa_cons (pe_callTy cr_range1 (by rfl) T.m_range (by decide +kernel) (pa_cons (pe_ix ix_tup (pv 1) pe_int (fun _ _ => rfl)) pa_nil)) pa_nil)))
      (pss_cons (ps_set (i := 3) sc_law_order.nd rfl (Or.inl rfl) (pe_call G_law_take hr_law_take (by rfl) D_law_take.g D_law_take.F.kp D_law_take.b .nil pass0 (pa_cons (pv 0) (pa_cons pe_int pa_nil))))
      (pss_cons (ps_if (pt_cmpR op_lt (pv 3) pe_int (nomark _))
        (pss_one (ps_ret (pe_ix ix_list (pe_lst (pa_cons (pv 2) (pa_cons (pe_revL (pv 2)) pa_nil))) (pv 3) (fun _ _ => rfl))))
        pss_nil)
      (pss_one (ps_ret (pe_lc (own := [("_law_turn", 4)]) (g := (gName 4)) (by rfl) sc_law_order.nd (pi_range1 (by rfl) T.m_range (pa_cons (pe_ix ix_tup (pv 1) pe_int (fun _ _ => rfl)) pa_nil)) (blkOk_by (own := [("_law_turn", 4)]) (N := nm_law_order) (sc := defScope s_law_order) (by decide +kernel)) (fun _ _ _ _ _ => (pg_name (i := 4) sc_law_order.nd rfl (Or.inl rfl))) (fun _ _ _ _ _ => pts_nil) (fun _ _ _ _ _ => (pe_bmK K (by rfl) PySem.F.plainAttrs_list PySem.F.slot_list_pop PySem.F.type_list_pop mt_popAt (pv 2) (pa_cons (pe_call G_law_take hr_law_take (by rfl) D_law_take.g D_law_take.F.kp D_law_take.b .nil pass0 (pa_cons (pv 0) (pa_cons (pe_callB (r := Pw.rLenS K) call_len_seq (by rfl) T.m_len (by decide +kernel) (pa_cons (pv 2) pa_nil)) pa_nil))) pa_nil))))))))), ?_⟩
    have w0 : Wd S (mi H S) H := ⟨mi_ex, fun s m => mi_no m, hSd⟩
    -- some
    refine st_seq ?_
    refine st_set ?_
    refine (ev_ixT (K := K) (i := 0) (d := .int n) (ev_var (v := vw) rfl hw) ev_int rfl).bind w0 fun x B1 H1 e1 eB1 w1 hx => ?_
    cases hx
    refine ⟨n, rfl, fun r hr => ⟨r, 0, n, rfl, upd_same, by decide, by decide, by omega, by omega, by omega, fun A hA => ?_⟩⟩
    have e2 : Ex H (upd H1 r (.rng 0 n)) := e1.trans (Ex.new hr)
    have hA0 : H A = none := fresh_back e2 hA
    have w2 := (w1.ext (Ex.new (o := .rng 0 n) hr)).own (o := .lst ((rngI 0 n.toNat).map V.int)) hA
    have el : (List.range (n - 0).toNat).map (fun (i : Nat) => V.int (0 + (i : Int))) = (rngI 0 n.toNat).map V.int := by
      unfold rngI
      rw [List.map_map, Int.sub_zero]
      rfl
    rw [el]
    have hA2 : upd (upd H1 r (.rng 0 n)) A (.lst ((rngI 0 n.toNat).map V.int)) A = some (.lst ((rngI 0 n.toNat).map V.int)) := upd_same
    have e3 : Ex H (upd (upd H1 r (.rng 0 n)) A (.lst ((rngI 0 n.toNat).map V.int))) := e2.trans (Ex.new hA)
    generalize upd (upd H1 r (.rng 0 n)) A (.lst ((rngI 0 n.toNat).map V.int)) = H3 at w2 hA2 e3
    have hb3 : Bx b c H H3 := (Bx.refl hb).ext e3
    have nAb : A ≠ b := fun z => by
      obtain ⟨o, ho⟩ := hb.some
      rw [← z, hA0] at ho
      cases ho
    have hbA : b ∈ A :: S := List.mem_cons_of_mem _ hbS
    have hw3 := Dq.mono eB1 hw
    -- way
    dsimp only
    refine st_seq ?_
    refine (ex_take (K := K) rfl ev_int (by decide) (by decide)).get w2 hbA hb3.at_ (by unfold lid; omega) fun o B4 H4 ho x4 eB4 w4 hB4 => ?_
    have hb4 : Bx b (c + 1) H H4 := hb3.trans ⟨x4, hB4⟩
    have hA4 : H4 A = some (.lst ((rngI 0 n.toNat).map V.int)) := x4 _ _ (fun z => nAb (List.mem_singleton.mp z)) hA2
    replace hw3 := Dq.mono eB4 hw3
    refine st_gn ?_
    dsimp only
    refine st_seq ?_
    refine st_if w4 (eb_test (K := K) (ev_cmp (ev_var rfl (.int o)) ev_int)) (fun hlt B5 H5 e5 eB5 w5 => ?_) fun hge B5 H5 e5 eB5 w5 => ?_
    · have hlt := of_decide_eq_true hlt
      have w6 := w5.give (e5 _ _ hA4) (w0.nin hA0)
      have hs : Dq K (upd B5 A (.lst ((rngI 0 n.toNat).map V.int))) (.ref A) (.list ((rngI 0 n.toNat).map .int)) := .lst (sq_of upd_same) DqAll.ints
      obtain ⟨d, hat, ord, hord, rfl⟩ := atI2 (P := fun d => ∃ ord, Order n ord ∧ d = .list (List.map PyData.int ord)) (x := .list ((rngI 0 n.toNat).map .int)) (y := .list ((rngI 0 n.toNat).map PyData.int).reverse) (i := o) ⟨ho.1, hlt⟩ ⟨_, Order.rng' hn0, rfl⟩ ⟨(rngI 0 n.toNat).reverse, ⟨List.reverse_perm _⟩, by rw [List.map_reverse]⟩
      refine st_ret w6 (ev_ixL (ev_lst (ea_cons (ev_var rfl hs) (ea_cons (ev_revL (ev_var rfl hs)) ea_nil)) (Nat.le_of_ble_eq_true rfl)) (ev_var rfl (.int o)) hat) fun v B7 H7 e7 eB7 w7 h7 => q v H7 ord hord (Dq.mono (ex_mi w7.ex w7.no) h7) (((hb4.ext e5).ext e7).mono (by omega))
    · refine st_next ?_
      dsimp only
      have hb5 := hb4.ext e5
      have hA5 := e5 _ _ hA4
      refine lc_pop (K := K) (σ := [some (.ref b), some vw, some (.ref A), some (.int o), none]) (A := A) (rngI 0 n.toNat) PyData.int PyData.int (rngI 0 n.toNat) w5 hbA List.mem_cons_self nAb hb5.at_ (by rw [rngI_len]; unfold lid; omega) hA5 DqAll.ints (wk_rng1 (ea_cons (ev_ixT (i := 0) (d := .int n) (ev_var (v := vw) rfl (Dq.mono eB5 hw3)) ev_int rfl) ea_nil) (by omega)) (Nat.le_refl _) (by rw [rngI_len]; omega)
        (fun x H' xs' c' Qy Qn g1 g2 g3 g4 g5 g6 => ⟨rfl, (pop_at (K := K) (σ := [some (.ref b), some vw, some (.ref A), some (.int o), some x]) rfl rfl g1 nAb g4 g5 g2 g3 g6)⟩) fun v B6 H6 ys rest hp hyl x6 eB6 w6 hB6 _ hd => ?_
      have hrest : rest = [] := by
        have := hp.length_eq
        rw [List.length_append] at this
        exact List.eq_nil_of_length_eq_zero (by omega)
      rw [hrest, List.append_nil] at hp
      rw [rngI_len] at hB6
      refine q v H6 ys ⟨hp⟩ (Dq.mono (ex_mi w6.ex w6.tail.no) hd.dq) ⟨fun p o hp' ho => ?_, hB6.mono (by omega)⟩
      have hpA : p ≠ A := ne_of_none ho hA0
      have hpb : p ≠ b := fun z => hp' (List.mem_singleton.mpr z)
      exact x6 p o (fun z => by
        rcases List.mem_cons.mp z with z | z
        · exact hpb z
        · exact hpA (List.mem_singleton.mp z)) (hb5.at hpb ho)
end
end Pw

/-! ## K43_law_widths -/
namespace Pw
open PySem L2 Evl
def fWidths (ds : List PyData) (d : PyData) : Prop := ∃ n ts order, ds = [webD n ts, .list (List.map PyData.int order)] ∧ 0 ≤ n ∧ n ≤ 60 ∧ TiesIn n ts ∧ ts.length ≤ 1000 ∧ Order n order ∧ d = .list ((widths ts order).map .int)
def endsL (ts : List Tie) (later : List Int) : List Int := (ts.filter fun t => decide (t.2.1 ∈ later)).map (·.1) ++ (ts.filter fun t => decide (t.1 ∈ later)).map (·.2.1)
theorem later_mem {n : Int} {order : List Int} (ho : Order n order) {q : Int} (i : Nat) (hq : q ∈ order) : q ∈ order.drop (i + 1) ↔ i < posIn order q := by
  constructor
  · intro h
    obtain ⟨j, hj⟩ := List.getElem?_of_mem h
    rw [List.getElem?_drop] at hj
    have := posIn_at ho.nd hj
    omega
  · intro h
    have hg := posIn_get hq
    refine List.mem_of_getElem? (i := posIn order q - (i + 1)) ?_
    rw [List.getElem?_drop, show i + 1 + (posIn order q - (i + 1)) = posIn order q by omega]
    exact hg
theorem take_mem {n : Int} {order : List Int} (ho : Order n order) {q : Int} (i : Nat) (hq : q ∈ order) : q ∈ order.take (i + 1) ↔ q ∉ order.drop (i + 1) := by
  have hnd := ho.nd
  rw [← List.take_append_drop (i + 1) order] at hnd hq
  have h3 := (List.nodup_append.mp hnd).2.2
  constructor
  · exact fun h g => h3 q h q g rfl
  · intro h
    rcases List.mem_append.mp hq with g | g
    · exact g
    · exact absurd g h
theorem ends_open {n : Int} {ts : List Tie} {order : List Int} (hin : TiesIn n ts) (ho : Order n order) (i : Nat) (k : Int) :
    k ∈ openL ts order i ↔ k ∈ (endsL ts (order.drop (i + 1))).filter fun p => !decide (p ∈ order.drop (i + 1)) := by
  have rng : ∀ {x : Int}, (0 ≤ x ∧ x < n) ↔ x ∈ order := ho.mem.symm
  unfold openL endsL
  rw [List.mem_filter, List.mem_filter, List.any_eq_true, List.mem_append]
  constructor
  · rintro ⟨h1, q, hq, hgt⟩
    have hk : k ∈ order := List.mem_of_mem_take h1
    obtain ⟨t, ht, c⟩ := (nb_mem hin).mp hq
    have hr := hin t ht
    have hgt : (posIn order q : Int) > (i : Int) := of_decide_eq_true hgt
    have hqo : q ∈ order := rng.mp (by omega)
    have hql : q ∈ order.drop (i + 1) := (later_mem ho i hqo).mpr (by omega)
    refine ⟨?_, by rw [decide_eq_false ((take_mem ho i hk).mp h1)]; rfl⟩
    rcases c with ⟨c1, c2⟩ | ⟨c1, c2⟩
    · exact .inl (List.mem_map.mpr ⟨t, List.mem_filter.mpr ⟨ht, decide_eq_true (by rw [c2]; exact hql)⟩, c1⟩)
    · exact .inr (List.mem_map.mpr ⟨t, List.mem_filter.mpr ⟨ht, decide_eq_true (by rw [c1]; exact hql)⟩, c2⟩)
  · rintro ⟨h1, h2⟩
    have h2 : k ∉ order.drop (i + 1) := fun z => by rw [decide_eq_true z] at h2; cases h2
    have fin : ∀ (t : Tie) (q : Int), t ∈ ts → (t.1 = k ∧ t.2.1 = q ∨ t.1 = q ∧ t.2.1 = k) → q ∈ order.drop (i + 1) → k ∈ order.take (i + 1) ∧ ∃ x, x ∈ nb ts k ∧ decide ((posIn order x : Int) > (i : Int)) = true := fun t q ht c hq => by
      have hr := hin t ht
      have hk : k ∈ order := rng.mp (by omega)
      have hqo : q ∈ order := rng.mp (by omega)
      refine ⟨(take_mem ho i hk).mpr h2, q, (nb_mem hin).mpr ⟨t, ht, c⟩, decide_eq_true ?_⟩
      have := (later_mem ho i hqo).mp hq
      omega
    rcases h1 with h1 | h1
    · obtain ⟨t, ht, e⟩ := List.mem_map.mp h1
      obtain ⟨ht1, ht2⟩ := List.mem_filter.mp ht
      exact fin t t.2.1 ht1 (.inl ⟨e, rfl⟩) (of_decide_eq_true ht2)
    · obtain ⟨t, ht, e⟩ := List.mem_map.mp h1
      obtain ⟨ht1, ht2⟩ := List.mem_filter.mp ht
      exact fin t t.1 ht1 (.inr ⟨rfl, e⟩) (of_decide_eq_true ht2)
section
variable {P : Program} {w : World} {K : PySem.W.Frag} {mg : Str → Option Value} {base : Heap}
theorem sc_law_widths : FnScope nm_law_widths ps_law_widths (defScope s_law_widths) := ⟨rfl, rfl, rfl, by decide +kernel, rfl, by decide +kernel, by decide +kernel⟩
theorem ok_law_widths {f : Addr} {fd : FuncData} (T : Txt mg) (Ds : Defs K mg) (D : Dfn K mg "_law_widths" s_law_widths ps_law_widths f fd) : FnOk P w K mg base CX0 1 f fd ps_law_widths (spD K fWidths) := by
  refine D.F.ok sc_law_widths (fun vs H Q E h => ?_) (fun cdv A outer s H vs Q E hr h => ?_)
  · obtain ⟨S, B, ds, d, w, hd, ⟨n, ts, order, rfl, _⟩, _⟩ := h
    exact DqAll.length hd
  · obtain ⟨S, B, ds, d, w, hd, ⟨n, ts, order, rfl, hn0, hn, hin, hl, ho, rfl⟩, q⟩ := h
    obtain ⟨v1, v2, rfl, h1, h2⟩ := two_args hd
    have hol := ho.len
    refine ⟨_, (pss_cons (ps_set (i := 2) sc_law_widths.nd rfl (Or.inl rfl) (pe_lst pa_nil))
      (pss_cons (ps_for PassesOwn.never rfl (pi_range1 (by rfl) T.m_range (pa_cons (pe_callB call_len_seq (by rfl) T.m_len (by decide +kernel) (pa_cons (pv 1) pa_nil)) pa_nil)) (pg_name (i := 3) sc_law_widths.nd rfl (Or.inl rfl))
        (pss_cons (ps_set (i := 4) sc_law_widths.nd rfl (Or.inr rfl) (pe_slice sl_list (pv 1) (po_some (pe_op op_add (pv 3) pe_int)) po_none))
        (pss_cons (ps_set (i := 5) sc_law_widths.nd rfl (Or.inl rfl) (pe_op op_cat (pe_lc (own := [("_law_a", 6), ("_law_b", 7), ("_law_weight_here", 8)]) (g := (gTup K 3 (gCons (gName 6) (gCons (gName 7) (gCons (gName 8) gNil))))) (by rfl) sc_law_widths.nd (pi_tup (pe_ix ix_tup (pv 0) pe_int (fun _ _ => rfl))) (blkOk_by (own := [("_law_a", 6), ("_law_b", 7), ("_law_weight_here", 8)]) (N := nm_law_widths) (sc := defScope s_law_widths) (by decide +kernel)) (fun _ _ _ _ _ => (pg_tup (by rfl) (pgs_cons (pg_name (i := 6) sc_law_widths.nd rfl (Or.inl rfl)) (pgs_cons (pg_name (i := 7) sc_law_widths.nd rfl (Or.inl rfl)) (pgs_cons (pg_name (i := 8) sc_law_widths.nd rfl (Or.inl rfl)) pgs_nil))))) (fun _ _ _ _ _ => (pts_one (pt_cmpR (r := rIn K false) op_in_seq (pv 7) (pv 4) (by rfl)))) (fun _ _ _ _ _ => (pv 6))) (pe_lc (own := [("_law_a", 6), ("_law_b", 7), ("_law_weight_here", 8)]) (g := (gTup K 3 (gCons (gName 6) (gCons (gName 7) (gCons (gName 8) gNil))))) (by rfl) sc_law_widths.nd (pi_tup (pe_ix ix_tup (pv 0) pe_int (fun _ _ => rfl))) (blkOk_by (own := [("_law_a", 6), ("_law_b", 7), ("_law_weight_here", 8)]) (N := nm_law_widths) (sc := defScope s_law_widths) (by decide +kernel)) (fun _ _ _ _ _ => (pg_tup (by rfl) (pgs_cons (pg_name (i := 6) sc_law_widths.nd rfl (Or.inl rfl)) (pgs_cons (pg_name (i := 7) sc_law_widths.nd rfl (Or.inl rfl)) (pgs_cons (pg_name (i := 8) sc_law_widths.nd rfl (Or.inl rfl)) pgs_nil))))) (fun _ _ _ _ _ => (pts_one (pt_cmpR (r := rIn K false) op_in_seq (pv 6) (pv 4) (by rfl)))) (fun _ _ _ _ _ => (pv 7)))))
        (pss_one (ps_expr (pe_bm PySem.F.plainAttrs_list PySem.F.slot_list_append PySem.F.type_list_append mt_append (pv 2) (pa_cons (pe_lenSet rfl (by rfl) T.m_len (by rfl) T.m_set (pe_lc (own := [("_law_place", 9)]) (g := (gName 9)) (by rfl) sc_law_widths.nd (pi_list (pv 5)) (blkOk_by (own := [("_law_place", 9)]) (N := nm_law_widths) (sc := defScope s_law_widths) (by decide +kernel)) (fun _ _ _ _ _ => (pg_name (i := 9) sc_law_widths.nd rfl (Or.inl rfl))) (fun _ _ _ _ _ => (pts_one (pt_cmpR (r := rIn K true) op_notIn_seq (pv 9) (pv 4) (by rfl)))) (fun _ _ _ _ _ => (pv 9)))) pa_nil)))))))
      (pss_one (ps_ret (pv 2))))), ?_⟩
    refine ⟨Nat.le_of_ble_eq_true rfl, fun F hF => ?_⟩
    have w1 := w.own (o := .lst []) hF
    have hF1 : upd H F (.lst []) F = some (.lst []) := upd_same
    have e1 : Ex H (upd H F (.lst [])) := Ex.new hF
    generalize upd H F (.lst []) = H1 at w1 hF1 e1
    refine st_gn ?_
    dsimp only
    refine st_seq ?_
    refine st_for (K := K) (rngI 0 order.length) PyData.int w1 (wk_rng1 (j := ((order.map PyData.int).length : Nat)) (ea_cons (ev_len (t := false) (ev_var (v := v2) rfl h2)) ea_nil) (by rw [List.length_map]; omega) |> fun h => by rw [List.length_map, Int.toNat_natCast] at h; exact h) fun B2 H2 e2 eB2 w2 => ⟨fun i σ' H' => ∃ B' xs x3 x4 x5, Ex B2 B' ∧ Wd (F :: S) B' H' ∧ Ex H H' ∧ H' F = some (.lst xs) ∧ DqAll K B' xs (((widths ts order).take i).map .int) ∧ σ' = [some v1, some v2, some (.ref F), x3, x4, x5, none, none, none, none],
      ⟨B2, [], _, _, _, Ex.refl _, w2, e1.trans e2, e2 _ _ hF1, .nil, rfl⟩, ?_, ?_⟩
    · rintro i k σ' H' hk ⟨B', xs, x3, x4, x5, eB', w', eH', hF', hxs, rfl⟩
      have hil := (List.getElem?_eq_some_iff.mp hk).1
      rw [rngI_len] at hil
      have ek : k = (i : Int) := by
        rw [rngI_get hil] at hk
        have := Option.some.inj hk
        omega
      subst ek
      refine ⟨F :: S, B', eB', w', fun x B3 H3 e3 eB3 w3 hx => ?_⟩
      cases hx
      have eA := eB2.trans (eB'.trans eB3)
      have h13 := Dq.mono eA h1
      have h23 := Dq.mono eA h2
      refine st_gn ?_
      dsimp only
      refine st_seq ?_
      have ect : cutA (order.map PyData.int) (some ((i : Int) + 1)) none = ((order.drop (i + 1)).map PyData.int) := by
        rw [show (i : Int) + 1 = ((i + 1 : Nat) : Int) by omega, cutA_drop, List.map_drop]
      refine st_asg w3 (ev_is (ev_slL (ev_var (v := v2) rfl h23) (ep_some (K := K) (ev_add (ev_var rfl (.int (i : Int))) ev_int)) ep_none) (by rw [ect])) fun v4 B4 H4 e4 eB4 w4 h4 => ?_
      replace h13 := Dq.mono eB4 h13
      dsimp only
      refine st_seq ?_
      have hfl : ∀ f : Tie → Bool, (ts.filter f).length ≤ 1000 := fun f => Nat.le_trans (List.length_filter_le _ _) hl
      refine st_asg w4 ((ev_catL (ev_lcDL (K := K) ts tieD (fun t => decide (t.2.1 ∈ order.drop (i + 1))) (fun t => .int t.1) (wk_tup (ev_ixT (i := 1) (d := .tuple (ts.map tieD)) (ev_var (v := v1) rfl h13) ev_int rfl)) (by omega) fun t ht => turn_three (fun _ _ _ => rfl) (fun y1 y2 y3 B5 e5 g1 g2 g3 => eb_test (ev_in (neg := false) (t := false) (ns := order.drop (i + 1)) (ev_var rfl g2) (ev_var rfl (Dq.mono e5 h4)))) fun y1 y2 y3 B5 e5 g1 g2 g3 _ => ev_var rfl g1)
        (ev_lcDL (K := K) ts tieD (fun t => decide (t.1 ∈ order.drop (i + 1))) (fun t => .int t.2.1) (wk_tup (ev_ixT (i := 1) (d := .tuple (ts.map tieD)) (ev_var (v := v1) rfl h13) ev_int rfl)) (by omega) fun t ht => turn_three (fun _ _ _ => rfl) (fun y1 y2 y3 B5 e5 g1 g2 g3 => eb_test (ev_in (neg := false) (t := false) (ns := order.drop (i + 1)) (ev_var rfl g1) (ev_var rfl (Dq.mono e5 h4)))) fun y1 y2 y3 B5 e5 g1 g2 g3 _ => ev_var rfl g2) (by rw [List.length_map, List.length_map]; exact Nat.le_trans (Nat.add_le_add (hfl _) (hfl _)) (by decide))).imp (R' := fun v B => Dq K B v (.list ((endsL ts (order.drop (i + 1))).map .int))) fun v B h => by
          unfold endsL
          rw [List.map_append, List.map_map, List.map_map]
          exact h.dq) fun v5 B5 H5 e5 eB5 w5 h5 => ?_
      replace h4 := Dq.mono eB5 h4
      have hel : (endsL ts (order.drop (i + 1))).length ≤ 2000 := by
        unfold endsL
        rw [List.length_append, List.length_map, List.length_map]
        have h1 := hfl fun t => decide (t.2.1 ∈ order.drop (i + 1))
        have h2 := hfl fun t => decide (t.1 ∈ order.drop (i + 1))
        omega
      have hlx := DqAll.length hxs
      rw [List.length_map, List.length_take] at hlx
      dsimp only
      refine st_app w5 rfl (e5 _ _ (e4 _ _ (e3 _ _ hF'))) List.mem_cons_self (by omega) (ev_lenSet (ns := (endsL ts (order.drop (i + 1))).filter fun p => !decide (p ∈ order.drop (i + 1))) (ds := openL ts order i) (ev_lc (endsL ts (order.drop (i + 1))) PyData.int (fun p => !decide (p ∈ order.drop (i + 1))) PyData.int (wk_list (ev_var (v := v5) rfl h5)) (by omega) fun p hp => turn_name (fun _ => rfl) (fun y B6 e6 hy => eb_test (ev_in (neg := true) (t := false) (ns := order.drop (i + 1)) (ev_var rfl hy) (ev_var rfl (Dq.mono e6 h4)))) fun y B6 e6 hy _ => ev_var rfl hy) (Nat.le_trans (List.length_filter_le _ _) (by omega)) ((ho.nd.sublist (List.take_sublist _ _)).sublist List.filter_sublist) fun k => ends_open hin ho i k) fun v6 B6 H6 e6 eB6 w6 h6 => ?_
      refine ⟨B6, _, _, _, _, eB'.trans (eB3.trans (eB4.trans (eB5.trans eB6))), w6, (eH'.trans (e3.trans (e4.trans (e5.trans e6)))).mut hF, upd_same, ?_, rfl⟩
      have eo : (widths ts order)[i]? = some ((openL ts order i).length : Int) := by
        unfold widths
        rw [List.getElem?_map, List.getElem?_range hil]
        rfl
      rw [List.take_add_one, eo, List.map_append]
      exact DqAll.snoc (DqAll.mono (eB3.trans (eB4.trans (eB5.trans eB6))) hxs) h6
    · rintro σ' H' ⟨B', xs, x3, x4, x5, eB', w', eH', hF', hxs, rfl⟩
      rw [rngI_len] at hxs
      have el : order.length = (widths ts order).length := by unfold widths; rw [List.length_map, List.length_range]
      rw [el, List.take_length] at hxs
      refine ⟨⟨_, B', eB', w'⟩, ?_⟩
      have w3 := w'.give hF' (w.nin hF)
      exact ⟨_, rfl, q (.ref F) _ H' eH' (eB2.trans (eB'.trans w'.giveE)) w3 (.lst (sq_of upd_same) (DqAll.mono w'.giveE hxs))⟩
end
end Pw

/-! ## K43_beside -/
namespace Pw
open PySem L2 Evl
def fBeside (ds : List PyData) (d : PyData) : Prop := ∃ n ts, ds = [webD n ts] ∧ 0 ≤ n ∧ n ≤ 1000 ∧ ts.length ≤ 1000 ∧ TiesIn n ts ∧ d = nearD n ts
section
variable {P : Program} {w : World} {K : PySem.W.Frag} {mg : Str → Option Value} {base : Heap}
theorem sc_beside : FnScope nm_beside ps_beside (defScope s_beside) := ⟨rfl, rfl, rfl, by decide +kernel, rfl, by decide +kernel, by decide +kernel⟩
theorem ok_beside {f : Addr} {fd : FuncData} (T : Txt mg) (Ds : Defs K mg) (D : Dfn K mg "beside" s_beside ps_beside f fd) : FnOk P w K mg base CX0 1 f fd ps_beside (spD K fBeside) := by
  refine D.F.ok sc_beside (fun vs H Q E h => ?_) (fun cdv A outer s H vs Q E hr h => ?_)
  · obtain ⟨S, B, ds, d, w, hd, ⟨n, ts, rfl, _⟩, _⟩ := h
    exact DqAll.length hd
  · obtain ⟨S, B, ds, d, w, hd, ⟨n, ts, rfl, hn0, hn1, hl, hin, rfl⟩, q⟩ := h
    obtain ⟨v1, rfl, h1⟩ : ∃ v1, vs = [v1] ∧ Dq K B v1 (webD n ts) := by
      cases hd with
      | cons h1 t => cases t; exact ⟨_, rfl, h1⟩
    refine ⟨_, (pss_cons (ps_setLc (i := 1) (own := [("place", 5)]) (g := (gName 5)) (by rfl) sc_beside.nd rfl rfl (sw_true rfl rfl rfl (by decide +kernel)) (pi_range1 (by rfl) T.m_range (pa_cons (pe_ix ix_seq (pv 0) pe_int (fun _ _ => rfl)) pa_nil)) (blkOk_by (own := [("place", 5)]) (N := nm_beside) (sc := defScope s_beside) (by decide +kernel)) (fun _ _ _ _ _ => (pg_name (i := 5) sc_beside.nd rfl (Or.inl rfl))) (fun _ _ _ _ _ => pts_nil) (fun _ _ _ _ _ => (pe_lst pa_nil)))
      (pss_cons (ps_for PassesOwn.never rfl (pi_tup (pe_ix ix_seq (pv 0) pe_int (fun _ _ => rfl))) (pg_tup (by rfl) (pgs_cons (pg_name (i := 2) sc_beside.nd rfl (Or.inl rfl)) (pgs_cons (pg_name (i := 3) sc_beside.nd rfl (Or.inl rfl)) (pgs_cons (pg_name (i := 4) sc_beside.nd rfl (Or.inl rfl)) pgs_nil))))
        (pss_cons (ps_expr (pe_bm PySem.F.plainAttrs_list PySem.F.slot_list_append PySem.F.type_list_append mt_append (pe_ix ix_list (pv 1) (pv 2) (fun _ _ => rfl)) (pa_cons (pv 3) pa_nil)))
        (pss_one (ps_expr (pe_bm PySem.F.plainAttrs_list PySem.F.slot_list_append PySem.F.type_list_append mt_append (pe_ix ix_list (pv 1) (pv 3) (fun _ _ => rfl)) (pa_cons (pv 2) pa_nil))))))
      (pss_one (ps_ret (pv 1))))), ?_⟩
    refine st_set (lists_lc (K := K) (B := B) (S := S) (l := (rngI 0 n.toNat).map .int) (wk_rng1 (ea_cons (ev_ix (t := true) (d := .int n) (ev_var (v := v1) rfl h1) ev_int rfl) ea_nil) (by omega)) (by rw [List.length_map, rngI_len]; omega) (fun _ => by rfl) w fun L ps H1 e1 hL hpl hnd hps hfr => ?_)
    rw [List.length_map, rngI_len] at hpl
    have hdf : ∀ p ∈ L :: ps, ∃ o, H1 p = some o := fun p hp => by
      rcases List.mem_cons.mp hp with rfl | hp
      · exact ⟨_, hL⟩
      · exact ⟨_, hps p hp⟩
    have w1 := w.owns e1 hfr hdf
    rw [List.nodup_cons] at hnd
    have hget : ∀ {j : Nat}, j < n.toNat → ∃ p, ps[j]? = some p := fun {j} hj => ⟨ps[j], List.getElem?_eq_getElem (by omega)⟩
    have hinj : ∀ {i j : Nat} {p : Addr}, ps[i]? = some p → ps[j]? = some p → i = j := fun {i j p} h h' => nodup_at hnd.2 h h'
    refine st_for (K := K) ts tieD w1 (wk_tup (ev_ix (t := true) (ev_var (v := v1) rfl h1) ev_int rfl)) fun B2 H2 e2 eB2 w2 => ⟨fun i σ' H' => Ex H H' ∧ ∃ B' x2 x3 x4, Ex B2 B' ∧ Wd ((L :: ps) ++ S) B' H' ∧ H' L = some (.lst (ps.map V.ref)) ∧ (∀ (j : Nat) p, ps[j]? = some p → H' p = some (.lst ((nb (ts.take i) (j : Int)).map V.int))) ∧ σ' = [some v1, some (.ref L), x2, x3, x4, none],
      ⟨e1.trans e2, B2, none, none, none, Ex.refl _, w2, e2 _ _ hL, fun j p hj => (e2 _ _ (hps p (List.mem_of_getElem? hj))), rfl⟩, ?_, ?_⟩
    · rintro i t σ' H' hi ⟨eH, B', x2, x3, x4, eB', w', hL', hP, rfl⟩
      have hil : i < ts.length := (List.getElem?_eq_some_iff.mp hi).1
      refine ⟨_, B', eB', w', fun x B3 H3 e3 eB3 w3 hx => g_tie hx w3.ex ?_⟩
      obtain ⟨t1, t2, t3⟩ := hin t (List.mem_of_getElem? hi)
      obtain ⟨pa, hpa⟩ := hget (j := t.1.toNat) (by omega)
      obtain ⟨pb, hpb⟩ := hget (j := t.2.1.toNat) (by omega)
      have nab : pa ≠ pb := fun z => by
        have := hinj hpa (z ▸ hpb)
        omega
      have ma := List.mem_of_getElem? hpa
      have mb := List.mem_of_getElem? hpb
      have hpaA := e3 _ _ (hP _ _ hpa)
      have hpbA := e3 _ _ (hP _ _ hpb)
      have hL3 := e3 _ _ hL'
      have nLa : L ≠ pa := fun z => hnd.1 (z ▸ ma)
      have nLb : L ≠ pb := fun z => hnd.1 (z ▸ mb)
      have hlen : ∀ p : Int, ((nb (ts.take i) p).map V.int).length ≤ 40000 := fun p => by
        rw [List.length_map]
        have h2 := nb_len (ts.take i) p
        rw [List.length_take] at h2
        omega
      refine st_appAt (L := L) (ps := ps) (p := pa) rfl rfl rfl hL3 (atI_at t1 (by rw [List.getElem?_map, hpa]; rfl)) hpaA (hlen _) ?_
      refine st_appAt (L := L) (ps := ps) (p := pb) rfl rfl rfl (by rw [upd_ne nLa]; exact hL3) (atI_at (by omega) (by rw [List.getElem?_map, hpb]; rfl)) (by rw [upd_ne nab.symm]; exact hpbA) (hlen _) ?_
      have frA : H pa = none := hfr pa (List.mem_cons_of_mem _ ma)
      have frB : H pb = none := hfr pb (List.mem_cons_of_mem _ mb)
      refine ⟨((eH.trans e3).mut frA).mut frB, B3, _, _, _, eB'.trans eB3, (w3.put (List.mem_append_left _ (List.mem_cons_of_mem _ ma))).put (List.mem_append_left _ (List.mem_cons_of_mem _ mb)), (by rw [upd_ne nLb, upd_ne nLa]; exact hL3), fun j p hj => ?_, rfl⟩
      rw [List.take_add_one, hi, Option.toList_some, nb_snoc]
      by_cases ja : j = t.1.toNat
      · subst ja
        have e : p = pa := Option.some.inj (hj.symm.trans hpa)
        subst e
        rw [upd_ne nab, upd_same, show ((t.1.toNat : Nat) : Int) = t.1 by omega, if_pos rfl, List.map_append]
        rfl
      · by_cases jb : j = t.2.1.toNat
        · subst jb
          have e : p = pb := Option.some.inj (hj.symm.trans hpb)
          subst e
          rw [upd_same, show ((t.2.1.toNat : Nat) : Int) = t.2.1 by omega, if_neg (by omega), if_pos rfl, List.map_append]
          rfl
        · have na : p ≠ pa := fun z => ja (hinj (z ▸ hj) hpa)
          have nb' : p ≠ pb := fun z => jb (hinj (z ▸ hj) hpb)
          rw [upd_ne nb', upd_ne na, if_neg (by omega), if_neg (by omega), List.append_nil]
          exact e3 _ _ (hP j p hj)
    · rintro σ' H' ⟨eH, B', x2, x3, x4, eB', w', hL', hP, rfl⟩
      refine ⟨⟨_, B', eB', w'⟩, ?_⟩
      rw [List.take_length] at hP
      have hns : ∀ p ∈ L :: ps, p ∉ S := fun p hp => w.nin (hfr p hp)
      refine ⟨_, rfl, q (.ref L) (mi H' S) H' eH (ex_mi (w.ex.trans eH) w.no) (w.step eH) (.lst (sq_of (by rw [mi_at (hns L List.mem_cons_self)]; exact hL')) (dqAll_of (by rw [List.length_map, List.length_map, rngI_len]; exact hpl) fun j v d hv hd => ?_))⟩
      rw [List.getElem?_map] at hv hd
      obtain ⟨p, hp, rfl⟩ := Option.map_eq_some_iff.mp hv
      have hj : j < n.toNat := by
        have := (List.getElem?_eq_some_iff.mp hp).1
        omega
      rw [rngI_get hj] at hd
      cases hd
      rw [show (0 : Int) + (j : Int) = (j : Int) by omega]
      exact .lst (sq_of (by rw [mi_at (hns p (List.mem_cons_of_mem _ (List.mem_of_getElem? hp)))]; exact hP j p hp)) DqAll.ints
end
end Pw

/-! ## K43_open_behind -/
namespace Pw
open PySem L2 Evl
def fOpen (ds : List PyData) (d : PyData) : Prop := ∃ n ts t order, ds = [webD n ts, seqD t (List.map PyData.int order)] ∧ 0 ≤ n ∧ n ≤ 60 ∧ TiesIn n ts ∧ ts.length ≤ 1000 ∧ Order n order ∧ d = .list ((openS ts order).map fun l => .list (l.map .int))
section
variable {P : Program} {w : World} {K : PySem.W.Frag} {mg : Str → Option Value} {base : Heap}
theorem sc_open_behind : FnScope nm_open_behind ps_open_behind (defScope s_open_behind) := ⟨rfl, rfl, rfl, by decide +kernel, rfl, by decide +kernel, by decide +kernel⟩
theorem ok_open_behind {f : Addr} {fd : FuncData} (T : Txt mg) (Ds : Defs K mg) (D : Dfn K mg "open_behind" s_open_behind ps_open_behind f fd) : FnOk P w K mg base CX0 2 f fd ps_open_behind (spD K fOpen) := by
  obtain ⟨f_beside, fd_beside, D_beside⟩ := Ds.d_beside
  have G_beside := ok_beside (P := P) (w := w) (base := base) T Ds D_beside
  refine D.F.ok sc_open_behind (fun vs H Q E h => ?_) (fun cdv A outer s H vs Q E hr h => ?_)
  · obtain ⟨S, B, ds, d, w, hd, ⟨n, ts, t, order, rfl, _⟩, _⟩ := h
    exact DqAll.length hd
  · obtain ⟨S, B, ds, d, w, hd, ⟨n, ts, t, order, rfl, hn0, hn, hin, hl, ho, rfl⟩, q⟩ := h
    have hr_beside := hr.mono (show 1 ≤ 1 by decide)
    have hu := hu_of hr
    obtain ⟨v1, v2, rfl, h1, h2⟩ := two_args hd
    have hol := ho.len
    refine ⟨_, (pss_cons (ps_set (i := 2) sc_open_behind.nd rfl (Or.inr rfl) (pe_call G_beside hr_beside (by rfl) D_beside.g D_beside.F.kp D_beside.b .nil pass0 (pa_cons (pv 0) pa_nil)))
      (pss_cons (ps_set (i := 3) sc_open_behind.nd rfl (Or.inr rfl) (pe_callTy (call_dictP rfl) (by rfl) T.m_dict (by decide +kernel) (pa_cons (pe_lc (own := [("turn", 5), ("place", 7)]) (g := (gTup K 2 (gCons (gName 5) (gCons (gName 7) gNil)))) (by rfl) sc_open_behind.nd (pi_or (pi_enumO false (by rfl) T.m_enumerate (pa_cons (pv 1) pa_nil)) (pi_enumO true (by rfl) T.m_enumerate (pa_cons (pv 1) pa_nil))) (blkOk_by (own := [("turn", 5), ("place", 7)]) (N := nm_open_behind) (sc := defScope s_open_behind) (by decide +kernel)) (fun _ _ _ _ _ => (pg_tup (by rfl) (pgs_cons (pg_name (i := 5) sc_open_behind.nd rfl (Or.inl rfl)) (pgs_cons (pg_name (i := 7) sc_open_behind.nd rfl (Or.inl rfl)) pgs_nil)))) (fun _ _ _ _ _ => pts_nil) (fun _ _ _ _ _ => (pe_tup (pa_cons (pv 7) (pa_cons (pv 5) pa_nil))))) pa_nil)))
      (pss_cons (ps_set (i := 4) sc_open_behind.nd rfl (Or.inl rfl) (pe_lst pa_nil))
      (pss_cons (ps_for PassesOwn.never rfl (pi_range1 (by rfl) T.m_range (pa_cons (pe_callB call_len_seq (by rfl) T.m_len (by decide +kernel) (pa_cons (pv 1) pa_nil)) pa_nil)) (pg_name (i := 5) sc_open_behind.nd rfl (Or.inr rfl))
        (pss_cons (ps_setLc (i := 6) (own := [("place", 7)]) (g := (gName 7)) (by rfl) sc_open_behind.nd rfl rfl (sw_true rfl rfl rfl (by decide +kernel)) (pi_or (pi_list (pe_slice sl_list (pv 1) po_none (po_some (pe_op op_add (pv 5) pe_int)))) (pi_tup (pe_slice sl_tupA (pv 1) po_none (po_some (pe_op op_add (pv 5) pe_int))))) (blkOk_by (own := [("place", 7)]) (N := nm_open_behind) (sc := defScope s_open_behind) (by decide +kernel)) (fun _ _ _ _ _ => (pg_name (i := 7) sc_open_behind.nd rfl (Or.inl rfl))) (fun _ _ _ _ _ => (pts_one (pt_val (pe_callB (r := rAny K) (cr_any rfl) (by rfl) T.m_any (by decide +kernel) (pa_cons (pe_lc (own := [("other", 8)]) (g := (gName 8)) (by rfl) sc_open_behind.nd (pi_listK K (by rfl) (pe_ix (r := rIxL K) ix_list (pv 2) (pv 7) (fun _ _ => rfl))) (blkOk_by (own := [("other", 8)]) (by kernel_rfl)) (fun _ _ _ _ _ => (pg_name (i := 8) sc_open_behind.nd rfl (Or.inl rfl))) (fun _ _ _ _ _ => pts_nil) (fun _ _ _ _ _ => (pe_cmpR op_gt (pe_dget hu (pv 3) (pv 8) (fun _ _ => rfl)) (pv 5) (nomark _)))) pa_nil))))) (fun _ _ _ _ _ => (pv 7)))
        (pss_one (ps_expr (pe_bm PySem.F.plainAttrs_list PySem.F.slot_list_append PySem.F.type_list_append mt_append (pv 4) (pa_cons (pe_callB cr_sortedI (by rfl) T.m_sorted (by decide +kernel) (pa_cons (pv 6) pa_nil)) pa_nil))))))
      (pss_one (ps_ret (pv 4))))))), ?_⟩
    refine st_asg w (ev_call (f := fBeside) (d := nearD n ts) (ea_cons (ev_var rfl h1) ea_nil) ⟨n, ts, rfl, hn0, by omega, hl, hin, rfl⟩) fun v3 B3 H3 e3 eB3 w3 h3 => ?_
    replace h2 := Dq.mono eB3 h2
    -- the turns
    dsimp only
    refine st_seq ?_
    refine st_asg w3 (ev_dmap (m := posM order) (by rw [posM_keys]; exact ho.nd) (ev_is (ev_lc (order.zipIdx.map fun p => (p.1, (p.2 : Int))) (fun p => .tuple [.int p.2, .int p.1]) (fun _ => true) (fun p => .tuple [.int p.1, .int p.2]) (by
        have e : enumD (order.map PyData.int) = (order.zipIdx.map fun p => (p.1, (p.2 : Int))).map (fun p => PyData.tuple [.int p.2, .int p.1]) := by
          unfold enumD
          rw [List.zipIdx_map, List.map_map, List.map_map]
          rfl
        rw [← e]
        exact wk_enumS (ea_cons (ev_var (v := v2) rfl h2) ea_nil)) (by rw [List.length_map, List.length_zipIdx]; omega) fun p hp => turn_two (fun _ _ => rfl) (fun _ _ _ _ _ _ => eb_yes) fun x1 x2 B' e g1 g2 _ => ev_tup (ea_cons (ev_var rfl g2) (ea_cons (ev_var rfl g1) ea_nil)) (Nat.le_of_ble_eq_true rfl)) (by rw [filter_yes]; rfl))) fun v4 B4 H4 e4 eB4 w4 h4 => ?_
    replace h2 := Dq.mono eB4 h2
    replace h3 := Dq.mono eB4 h3
    dsimp only
    refine st_seq ?_
    -- found
    refine ⟨Nat.le_of_ble_eq_true rfl, fun F hF => ?_⟩
    have w5 := w4.own (o := .lst []) hF
    have hF0 : H F = none := fresh_back (e3.trans e4) hF
    have hF5 : upd H4 F (.lst []) F = some (.lst []) := upd_same
    have e5 : Ex H (upd H4 F (.lst [])) := (e3.trans e4).trans (Ex.new hF)
    generalize upd H4 F (.lst []) = H5 at w5 hF5 e5
    refine st_gn ?_
    dsimp only
    refine st_seq ?_
    refine st_for (K := K) (rngI 0 order.length) PyData.int w5 (wk_rng1 (j := ((order.map PyData.int).length : Nat)) (ea_cons (ev_len (t := t) (ev_var (v := v2) rfl h2)) ea_nil) (by rw [List.length_map]; omega) |> fun h => by rw [List.length_map, Int.toNat_natCast] at h; exact h) fun B6 H6 e6 eB6 w6 => ⟨fun i σ' H' => ∃ B' xs x5 x6, Ex B6 B' ∧ Wd (F :: S) B' H' ∧ Ex H H' ∧ H' F = some (.lst xs) ∧ DqAll K B' xs (((openS ts order).take i).map fun l => .list (l.map .int)) ∧ σ' = [some v1, some v2, some v3, some v4, some (.ref F), x5, x6, none, none],
      ⟨B6, [], none, none, Ex.refl _, w6, e5.trans e6, e6 _ _ hF5, .nil, rfl⟩, ?_, ?_⟩
    · rintro i k σ' H' hk ⟨B', xs, x5, x6, eB', w', eH', hF', hxs, rfl⟩
      have hil := (List.getElem?_eq_some_iff.mp hk).1
      rw [rngI_len] at hil
      have ek : k = (i : Int) := by
        rw [rngI_get hil] at hk
        have := Option.some.inj hk
        omega
      subst ek
      refine ⟨F :: S, B', eB', w', fun x B7 H7 e7 eB7 w7 hx => ?_⟩
      cases hx
      have eA := eB6.trans (eB'.trans eB7)
      have h27 := Dq.mono eA h2
      have h37 := Dq.mono eA h3
      have h47 := stays_dmap _ _ _ eA h4
      have ect : cutA (order.map PyData.int) none (some ((i : Int) + 1)) = ((order.take (i + 1)).map PyData.int) := by
        rw [show (i : Int) + 1 = ((i + 1 : Nat) : Int) by omega, cutA_take, List.map_take]
      refine st_asg (i := 6) w7 (ev_lc (order.take (i + 1)) PyData.int (fun p => (nb ts p).any fun q => decide ((posIn order q : Int) > (i : Int))) PyData.int (by
          rw [← ect]
          exact wk_slS (ev_var (v := v2) rfl h27) ep_none (ep_some (K := K) (ev_add (ev_var rfl (.int (i : Int))) ev_int))) (by rw [List.length_take]; omega) fun p hp => turn_name (fun _ => rfl) (fun y B8 e8 hy => ?test) fun y B8 e8 hy _ => ev_var rfl hy) fun v8 B8 H8 e8 eB8 w8 h8 => ?rest
      case test =>
        have hpm := ho.mem.mp (List.mem_of_mem_take hp)
        refine eb_is (eb_B (ev_any (bs := (nb ts p).map fun q => decide ((posIn order q : Int) > (i : Int))) (ev_is (ev_lc (nb ts p) PyData.int (fun _ => true) (fun q => .bool (decide ((posIn order q : Int) > (i : Int)))) (wk_list (ev_ixL (d := .list ((nb ts p).map .int)) (ev_var (v := v3) rfl (Dq.mono e8 h37)) (ev_var rfl hy) (atI_at hpm.1 ?near))) (Nat.le_trans (nb_len ts p) (by omega)) fun q hq => turn_name (fun _ => rfl) (fun _ _ _ _ => eb_yes) fun z B9 e9 hz _ => ev_cmp (ev_dgetI (p := (q, (posIn order q : Int))) (ev_varR (v := v4) rfl (stays_dmap _ _ _ (e8.trans e9) h47) stays_dmap) (ev_var rfl hz) ?mem) (ev_var rfl (.int (i : Int)))) (by rw [filter_yes, List.map_map]; rfl)))) (by rw [List.any_map]; rfl)
        case near =>
          rw [List.getElem?_map, rngI_get (show p.toNat < n.toNat by omega)]
          show some (PyData.list ((nb ts (0 + (p.toNat : Int))).map .int)) = _
          rw [show (0 : Int) + (p.toNat : Int) = p by omega]
        case mem =>
          refine posM_mem (ho.mem.mpr ?_)
          have hadj := (nb_mem hin).mp hq
          obtain ⟨u, hu1, hu2⟩ := hadj
          have := hin u hu1
          omega
      case rest =>
        have hF8 := e8 _ _ (e7 _ _ hF')
        have hlx := DqAll.length hxs
        rw [List.length_map, List.length_take] at hlx
        dsimp only
        refine st_app w8 rfl hF8 List.mem_cons_self (by omega) (ev_srt (ns := openL ts order i) (ev_var rfl h8)) fun v9 B9 H9 e9 eB9 w9 h9 => ?_
        refine ⟨B9, xs ++ [v9], _, _, eB'.trans (eB7.trans (eB8.trans eB9)), w9, (eH'.trans (e7.trans (e8.trans e9))).mut hF0, upd_same, ?_, rfl⟩
        · have eo : (openS ts order)[i]? = some (srt (openL ts order i)) := by
            unfold openS
            rw [List.getElem?_map, List.getElem?_range hil]
            rfl
          rw [List.take_add_one, eo, List.map_append]
          exact DqAll.snoc (DqAll.mono (eB7.trans (eB8.trans eB9)) hxs) h9
    · rintro σ' H' ⟨B', xs, x5, x6, eB', w', eH', hF', hxs, rfl⟩
      rw [rngI_len] at hxs
      have el : order.length = (openS ts order).length := by unfold openS; rw [List.length_map, List.length_range]
      rw [el, List.take_length] at hxs
      refine ⟨⟨_, B', eB', w'⟩, ?_⟩
      have w7 := w'.give hF' (w.nin hF0)
      refine ⟨_, rfl, q (.ref F) _ H' eH' (eB3.trans (eB4.trans (eB6.trans (eB'.trans w'.giveE)))) w7 (.lst (sq_of upd_same) (DqAll.mono w'.giveE hxs))⟩
end
end Pw

/-! ## K43_width_of -/
namespace Pw
open PySem L2 Evl
def IsMax (m : Int) (ns : List Int) : Prop := m ∈ ns ∧ ∀ y ∈ ns, y ≤ m
theorem IsMax.one {a b : Int} {ns : List Int} (h : IsMax a ns) (g : IsMax b ns) : a = b := Int.le_antisymm (g.2 a h.1) (h.2 b g.1)
theorem isMax_ex : ∀ {ns : List Int}, ns ≠ [] → ∃ m, IsMax m ns
  | [], h => absurd rfl h
  | [a], _ => ⟨a, List.mem_cons_self, fun y hy => by rw [List.mem_singleton.mp hy]; exact Int.le_refl a⟩
  | a :: b :: r, _ => by
    obtain ⟨m, h1, h2⟩ := isMax_ex (ns := b :: r) (List.cons_ne_nil _ _)
    by_cases c : a ≤ m
    · exact ⟨m, List.mem_cons_of_mem _ h1, fun y hy => (List.mem_cons.mp hy).elim (fun e => by rw [e]; exact c) (h2 y)⟩
    · exact ⟨a, List.mem_cons_self, fun y hy => (List.mem_cons.mp hy).elim (fun e => by rw [e]; exact Int.le_refl a) fun hy => by
        have := h2 y hy
        omega⟩
theorem ev_maxI {K : PySem.W.Frag} {σ : L2.St} {B : Hp} {te : TE} {ns : List Int} {m : Int} (h : EvD K te σ B (.list (ns.map .int))) (hm : IsMax m ns) : EvD K (tCB (rMax K) (tCons te tNil)) σ B (.int m) :=
  ev_cb (ea_cons h ea_nil) (fun vs B' H' Q hv e q => by
    cases hv with
    | cons g1 g2 =>
      cases g2
      cases g1 with
      | lst hs hd =>
        have e2 := DqAll.ints_eq hd
        subst e2
        refine ⟨_, ns, rfl, ex_l e hs, List.length_pos_of_mem hm.1, fun m' i1 i2 => ?_⟩
        rw [IsMax.one ⟨i1, i2⟩ hm]
        exact q _ (.int _)) stays_dp
def fWidth (ds : List PyData) (d : PyData) : Prop := ∃ n ts t order m, ds = [webD n ts, seqD t (List.map PyData.int order)] ∧ 1 ≤ n ∧ n ≤ 60 ∧ TiesIn n ts ∧ ts.length ≤ 1000 ∧ Order n order ∧ IsMax m (widths ts order) ∧ d = .int m
section
variable {P : Program} {w : World} {K : PySem.W.Frag} {mg : Str → Option Value} {base : Heap}
theorem sc_width_of : FnScope nm_width_of ps_width_of (defScope s_width_of) := ⟨rfl, rfl, rfl, by decide +kernel, rfl, by decide +kernel, by decide +kernel⟩
theorem ok_width_of {f : Addr} {fd : FuncData} (T : Txt mg) (Ds : Defs K mg) (D : Dfn K mg "width_of" s_width_of ps_width_of f fd) : FnOk P w K mg base CX0 3 f fd ps_width_of (spD K fWidth) := by
  obtain ⟨f_open_behind, fd_open_behind, D_open_behind⟩ := Ds.d_open_behind
  have G_open_behind := ok_open_behind (P := P) (w := w) (base := base) T Ds D_open_behind
  refine D.F.ok sc_width_of (fun vs H Q E h => ?_) (fun cdv A outer s H vs Q E hr h => ?_)
  · obtain ⟨S, B, ds, d, w, hd, ⟨n, ts, t, order, m, rfl, _⟩, _⟩ := h
    exact DqAll.length hd
  · obtain ⟨S, B, ds, d, w, hd, ⟨n, ts, t, order, m, rfl, hn0, hn, hin, hl, ho, hm, rfl⟩, q⟩ := h
    have hr_open_behind := hr.mono (show 2 ≤ 2 by decide)
    obtain ⟨v1, v2, rfl, h1, h2⟩ := two_args hd
    have hol := ho.len
    refine ⟨_, (pss_one (ps_ret (pe_callB (cr_max rfl) (by rfl) T.m_max (by decide +kernel) (pa_cons (pe_lc (own := [("some", 2)]) (g := (gName 2)) (by rfl) sc_width_of.nd (pi_list (pe_call G_open_behind hr_open_behind (by rfl) D_open_behind.g D_open_behind.F.kp D_open_behind.b .nil pass0 (pa_cons (pv 0) (pa_cons (pv 1) pa_nil)))) (blkOk_by (own := [("some", 2)]) (N := nm_width_of) (sc := defScope s_width_of) (by decide +kernel)) (fun _ _ _ _ _ => (pg_name (i := 2) sc_width_of.nd rfl (Or.inl rfl))) (fun _ _ _ _ _ => pts_nil) (fun _ _ _ _ _ => (pe_callB (r := Pw.rLenS K) call_len_seq (by rfl) T.m_len (by decide +kernel) (pa_cons (pv 2) pa_nil)))) pa_nil)))), ?_⟩
    exact st_ret w (ev_maxI (ns := widths ts order) (ev_is (ev_lc (openS ts order) (fun l => .list (l.map .int)) (fun _ => true) (fun l => .int (l.length : Nat)) (wk_list (ev_call (f := fOpen) (d := .list ((openS ts order).map fun l => .list (l.map .int))) (ea_cons (ev_var rfl h1) (ea_cons (ev_var rfl h2) ea_nil)) ⟨n, ts, t, order, rfl, by omega, hn, hin, hl, ho, rfl⟩)) (by unfold openS; rw [List.length_map, List.length_range]; omega) fun l _ => turn_name (fun _ => rfl) (fun _ _ _ _ => eb_yes) fun x B' e hx _ => ev_is (ev_len (t := false) (ev_var (v := x) rfl hx)) (by rw [List.length_map])) (by
      rw [filter_yes]
      unfold openS widths
      rw [List.map_map, List.map_map]
      congr 1
      refine List.map_congr_left fun i _ => ?_
      show PyData.int ((srt (openL ts order i)).length : Nat) = .int ((openL ts order i).length : Nat)
      rw [srt_len])) hm) q
end
end Pw

/-! ## K43_law_right -/
namespace Pw
open PySem L2 Evl
def spRight (K : PySem.W.Frag) : Sp := fun vs H Q _ => ∃ b, vs = [.ref b] ∧ BoxAt H b 0 ∧ ∀ H', Xs [b] H H' → Q (.bl true) H'
/-- a web of any of the three kinds -/
def spAnyWeb (K : PySem.W.Frag) : Sp := fun vs H Q _ => ∃ (S : List Addr) (b : Addr) (n : Int) (c : Nat), vs = [.ref b, .int n] ∧ b ∈ S ∧ (∀ s ∈ S, ∃ o, H s = some o) ∧ BoxAt H b c ∧ c + 1000 < 2 ^ 40 ∧ 1 ≤ n ∧ n ≤ 30 ∧
  ∀ v H' ts, TiesIn n ts → ts.length ≤ 1000 → Dq K (mi H' S) v (webD n ts) → Bx b (c + 1000) H H' → Q v H'
section
variable {K : PySem.W.Frag} {vs : List V} {H : Hp} {Q : VK} {E : XK}
theorem any_web (h : spAnyWeb K vs H Q E) : spWeb K vs H Q E := by
  obtain ⟨S, b, n, c, h1, h2, h3, h4, h5, h6, h7, q⟩ := h
  exact ⟨S, b, n, c, h1, h2, h3, h4, h5, h6, h7, fun v H' ts w d x => q v H' ts w.ins (by have := w.len; omega) d x⟩
theorem any_tree (h : spAnyWeb K vs H Q E) : spTree K vs H Q E := by
  obtain ⟨S, b, n, c, h1, h2, h3, h4, h5, h6, h7, q⟩ := h
  exact ⟨S, b, n, c, h1, h2, h3, h4, h5, h6, by omega, fun v H' names us ts T d x => q v H' ts T.web.ins (by have := T.web.len; omega) d x⟩
theorem any_ring (h : spAnyWeb K vs H Q E) : spRing K vs H Q E := by
  obtain ⟨S, b, n, c, h1, h2, h3, h4, h5, h6, h7, q⟩ := h
  exact ⟨S, b, n, c, h1, h2, h3, h4, h5, h6, by omega, fun v H' ts R d x => q v H' ts R.ins (by have := R.len; omega) d x⟩
end
/-! ### widths of rings, lines -/
theorem nd_len {α : Type} [DecidableEq α] : ∀ {l m : List α}, l.Nodup → (∀ x ∈ l, x ∈ m) → l.length ≤ m.length
  | [], _, _, _ => Nat.zero_le _
  | a :: r, m, h, hs => by
    rw [List.nodup_cons] at h
    have h1 := nd_len (m := m.erase a) h.2 fun x hx => by
      have hxa : x ≠ a := fun z => h.1 (by rw [← z]; exact hx)
      exact (List.mem_erase_of_ne hxa).mpr (hs x (List.mem_cons_of_mem _ hx))
    have h2 := List.length_erase_of_mem (hs a List.mem_cons_self)
    have h3 : 0 < m.length := List.length_pos_of_mem (hs a List.mem_cons_self)
    rw [List.length_cons]
    omega
theorem open_iff {n : Int} {ts : List Tie} {order : List Int} (hin : TiesIn n ts) (ho : Order n order) {i : Nat} {k : Int} : k ∈ openL ts order i ↔ k ∈ order ∧ posIn order k ≤ i ∧ ∃ q, Adj ts k q ∧ i < posIn order q := by
  unfold openL
  rw [List.mem_filter, List.any_eq_true]
  constructor
  · rintro ⟨h1, q, hq, hgt⟩
    have hk := List.mem_of_mem_take h1
    have h2 := (take_mem ho i hk).mp h1
    rw [later_mem ho i hk] at h2
    have hgt := of_decide_eq_true hgt
    exact ⟨hk, by omega, q, (nb_mem hin).mp hq, by omega⟩
  · rintro ⟨hk, h1, q, hq, hgt⟩
    refine ⟨(take_mem ho i hk).mpr ?_, q, (nb_mem hin).mpr hq, decide_eq_true (by omega)⟩
    rw [later_mem ho i hk]
    omega
theorem open_nd {n : Int} {ts : List Tie} {order : List Int} (ho : Order n order) {i : Nat} : (openL ts order i).Nodup := (ho.nd.sublist (List.take_sublist _ _)).sublist List.filter_sublist
theorem isMax_w {ts : List Tie} {order : List Int} {m : Nat} (h1 : ∀ i, i < order.length → (openL ts order i).length ≤ m) (i : Nat) (hi : i < order.length) (h2 : m ≤ (openL ts order i).length) : IsMax (m : Int) (widths ts order) := by
  unfold widths
  refine ⟨List.mem_map.mpr ⟨i, List.mem_range.mpr hi, ?_⟩, fun y hy => ?_⟩
  · have := h1 i hi
    omega
  · obtain ⟨j, hj, rfl⟩ := List.mem_map.mp hy
    have := h1 j (List.mem_range.mp hj)
    omega
theorem rng_pos {n : Int} {p : Int} (h0 : 0 ≤ p) (h1 : p < n) : (posIn (rngI 0 n.toNat) p : Int) = p := rng_idx (rngI_mem.mpr (by omega))
theorem adj_in {n : Int} {ts : List Tie} (hin : TiesIn n ts) {x y : Int} (h : Adj ts x y) : 0 ≤ x ∧ x < n ∧ 0 ≤ y ∧ y < n ∧ x ≠ y := by
  obtain ⟨t, ht, c⟩ := h
  have := hin t ht
  omega
theorem ring_width {n : Int} {ts : List Tie} (R : RingOf n ts) (hn : 1 ≤ n) : IsMax (if (2 : Int) < n - 1 then 2 else n - 1) (widths ts (rngI 0 n.toNat)) := by
  have ho := Order.rng' (n := n) (by omega)
  have hl := ho.len
  have key : ∀ {i : Nat} {k : Int}, k ∈ openL ts (rngI 0 n.toNat) i → (k = (i : Int) ∨ k = 0) ∧ (i : Int) + 1 < n := fun {i k} hk => by
    obtain ⟨h1, h2, q, hq, h3⟩ := (open_iff R.ins ho).mp hk
    obtain ⟨a1, a2, a3, a4, a5⟩ := adj_in R.ins hq
    have p1 := rng_pos a1 a2
    have p2 := rng_pos a3 a4
    obtain ⟨t, ht, c⟩ := hq
    have hr := R.ins t ht
    have hk := R.kind t ht
    omega
  have mem : ∀ {i : Nat} {k : Int}, 0 ≤ k → k ≤ (i : Int) → (i : Int) < n → (∃ t ∈ ts, t.1 = k ∧ (i : Int) < t.2.1) → k ∈ openL ts (rngI 0 n.toNat) i := fun {i k} h0 h1 h2 ⟨t, ht, e, h3⟩ => by
    have hr := R.ins t ht
    have p1 := rng_pos (n := n) (p := k) h0 (by omega)
    have p2 := rng_pos (n := n) (p := t.2.1) (by omega) (by omega)
    exact (open_iff R.ins ho).mpr ⟨ho.mem.mpr (by omega), by omega, t.2.1, ⟨t, ht, .inl ⟨e, rfl⟩⟩, by omega⟩
  have two : ∀ i, (openL ts (rngI 0 n.toNat) i).length ≤ 2 := fun i => nd_len (m := [(i : Int), 0]) (open_nd ho) fun x hx => by
    rcases (key hx).1 with e | e
    · rw [e]; exact List.mem_cons_self
    · rw [e]; exact List.mem_cons_of_mem _ List.mem_cons_self
  by_cases c1 : n = 1
  · subst c1
    refine isMax_w (m := 0) (fun i hi => ?_) 0 (by rw [hl]; decide) (Nat.zero_le _)
    rw [Nat.le_zero, List.length_eq_zero_iff, List.eq_nil_iff_forall_not_mem]
    intro k hk
    have := (key hk).2
    omega
  · by_cases c2 : n = 2
    · subst c2
      refine isMax_w (m := 1) (fun i hi => ?_) 0 (by rw [hl]; decide) ?_
      · refine nd_len (m := [0]) (open_nd ho) fun x hx => ?_
        have := key hx
        rw [List.mem_singleton]
        omega
      · exact List.length_pos_of_mem (mem (i := 0) (k := 0) (by decide) (by decide) (by decide) (by
          obtain ⟨t, ht, e1, e2⟩ := R.next 0 (by decide) (by decide)
          exact ⟨t, ht, e1, by rw [e2]; decide⟩))
    · have e : (if (2 : Int) < n - 1 then (2 : Int) else n - 1) = ((2 : Nat) : Int) := by split <;> omega
      rw [e]
      refine isMax_w (m := 2) (fun i hi => two i) 1 (by rw [hl]; omega) ?_
      refine nd_len (l := [(0 : Int), 1]) (by decide) fun x hx => ?_
      simp only [List.mem_cons, List.not_mem_nil, or_false] at hx
      rcases hx with rfl | rfl
      · obtain ⟨t, ht, e1, e2⟩ := R.back (by omega)
        exact mem (by decide) (by decide) (by omega) ⟨t, ht, e1, by rw [e2]; omega⟩
      · obtain ⟨t, ht, e1, e2⟩ := R.next 1 (by decide) (by omega)
        exact mem (by decide) (by decide) (by omega) ⟨t, ht, e1, by rw [e2]; decide⟩
def lineT (n : Int) : List Tie := (rngI 0 (n - 1).toNat).map fun p => (p, p + 1, 1)
theorem line_in {n : Int} : TiesIn n (lineT n) := fun t ht => by
  obtain ⟨p, hp, rfl⟩ := List.mem_map.mp ht
  have := rngI_mem.mp hp
  show 0 ≤ p ∧ p < p + 1 ∧ p + 1 < n
  omega
theorem rev_pos {n : Int} {p : Int} (h0 : 0 ≤ p) (h1 : p < n) : (posIn (rngI 0 n.toNat).reverse p : Int) = n - 1 - p := by
  have ho : Order n (rngI 0 n.toNat).reverse := ⟨List.reverse_perm _⟩
  have hg : (rngI 0 n.toNat).reverse[(n - 1 - p).toNat]? = some p := by
    rw [List.getElem?_reverse (by rw [rngI_len]; omega), rngI_len, rngI_get (by omega)]
    congr 1
    omega
  have := posIn_at ho.nd hg
  omega
theorem line_width {n : Int} (hn : 1 ≤ n) : IsMax (if n - 1 < (1 : Int) then n - 1 else 1) (widths (lineT n) (rngI 0 n.toNat).reverse) := by
  have ho : Order n (rngI 0 n.toNat).reverse := ⟨List.reverse_perm _⟩
  have hl := ho.len
  have hin := line_in (n := n)
  have key : ∀ {i : Nat} {k : Int}, k ∈ openL (lineT n) (rngI 0 n.toNat).reverse i → k = n - 1 - (i : Int) ∧ 1 ≤ k := fun {i k} hk => by
    obtain ⟨h1, h2, q, hq, h3⟩ := (open_iff hin ho).mp hk
    obtain ⟨a1, a2, a3, a4, a5⟩ := adj_in hin hq
    have p1 := rev_pos a1 a2
    have p2 := rev_pos a3 a4
    obtain ⟨t, ht, c⟩ := hq
    obtain ⟨p, hp, rfl⟩ := List.mem_map.mp ht
    have c : p = k ∧ p + 1 = q ∨ p = q ∧ p + 1 = k := c
    omega
  have one : ∀ i, (openL (lineT n) (rngI 0 n.toNat).reverse i).length ≤ 1 := fun i => nd_len (m := [n - 1 - (i : Int)]) (open_nd ho) fun x hx => by rw [(key hx).1]; exact List.mem_singleton.mpr rfl
  by_cases c1 : n = 1
  · subst c1
    refine isMax_w (m := 0) (fun i hi => ?_) 0 (by rw [hl]; decide) (Nat.zero_le _)
    rw [Nat.le_zero, List.length_eq_zero_iff, List.eq_nil_iff_forall_not_mem]
    intro k hk
    have := key hk
    omega
  · rw [if_neg (by omega)]
    refine isMax_w (m := 1) (fun i hi => one i) 0 (by rw [hl]; omega) (List.length_pos_of_mem (a := n - 1) ((open_iff hin ho).mpr ⟨ho.mem.mpr (by omega), ?_, n - 2, ⟨(n - 2, n - 2 + 1, 1), List.mem_map.mpr ⟨n - 2, rngI_mem.mpr (by omega), rfl⟩, .inr ⟨rfl, ?_⟩⟩, ?_⟩))
    · have := rev_pos (n := n) (p := n - 1) (by omega) (by omega)
      omega
    · show n - 2 + 1 = n - 1
      omega
    · have := rev_pos (n := n) (p := n - 2) (by omega) (by omega)
      omega
theorem empty_width {n : Int} (hn : 1 ≤ n) : IsMax 0 (widths [] (rngI 0 n.toNat)) := by
  have ho := Order.rng' (n := n) (by omega)
  refine isMax_w (m := 0) (fun i hi => ?_) 0 (by rw [ho.len]; omega) (Nat.zero_le _)
  rw [Nat.le_zero, List.length_eq_zero_iff, List.eq_nil_iff_forall_not_mem]
  intro k hk
  obtain ⟨_, _, q, ⟨t, ht, _⟩, _⟩ := (open_iff (n := n) (fun t h => by cases h) ho).mp hk
  cases ht
theorem atR {f1 f2 f3 : Addr} {sp : Sp} {o : Int} (h0 : 0 ≤ o) (h1 : o < 3) : ∃ p ∈ [(f1, sp), (f2, sp), (f3, sp)], atI [V.ref f1, V.ref f2, V.ref f3] o = some (.ref p.1) ∧ p.2 = sp := by
  obtain rfl | rfl | rfl : o = 0 ∨ o = 1 ∨ o = 2 := by omega
  · exact ⟨(f1, sp), List.mem_cons_self, rfl, rfl⟩
  · exact ⟨(f2, sp), List.mem_cons_of_mem _ List.mem_cons_self, rfl, rfl⟩
  · exact ⟨(f3, sp), List.mem_cons_of_mem _ (List.mem_cons_of_mem _ List.mem_cons_self), rfl, rfl⟩
section
variable {P : Program} {w : World} {K : PySem.W.Frag} {mg : Str → Option Value} {base : Heap}
theorem sc_law_right : FnScope nm_law_right ps_law_right (defScope s_law_right) := ⟨rfl, rfl, rfl, by decide +kernel, rfl, by decide +kernel, by decide +kernel⟩
theorem ok_law_right {f : Addr} {fd : FuncData} (T : Txt mg) (Ds : Defs K mg) (D : Dfn K mg "_law_right" s_law_right ps_law_right f fd) : FnOk P w K mg base CX0 5 f fd ps_law_right (spRight K) := by
  obtain ⟨f_law_take, fd_law_take, D_law_take⟩ := Ds.d_law_take
  have G_law_take := ok_law_take (P := P) (w := w) (base := base) T Ds D_law_take
  obtain ⟨f_law_many, fd_law_many, D_law_many⟩ := Ds.d_law_many
  have G_law_many := ok_law_many (P := P) (w := w) (base := base) T Ds D_law_many
  obtain ⟨f_law_web, fd_law_web, D_law_web⟩ := Ds.d_law_web
  have G_law_web := ok_law_web (P := P) (w := w) (base := base) T Ds D_law_web
  obtain ⟨f_law_tree, fd_law_tree, D_law_tree⟩ := Ds.d_law_tree
  have G_law_tree := ok_law_tree (P := P) (w := w) (base := base) T Ds D_law_tree
  obtain ⟨f_law_ring, fd_law_ring, D_law_ring⟩ := Ds.d_law_ring
  have G_law_ring := ok_law_ring (P := P) (w := w) (base := base) T Ds D_law_ring
  obtain ⟨f_law_order, fd_law_order, D_law_order⟩ := Ds.d_law_order
  have G_law_order := ok_law_order (P := P) (w := w) (base := base) T Ds D_law_order
  obtain ⟨f_law_widths, fd_law_widths, D_law_widths⟩ := Ds.d_law_widths
  have G_law_widths := ok_law_widths (P := P) (w := w) (base := base) T Ds D_law_widths
  obtain ⟨f_width_of, fd_width_of, D_width_of⟩ := Ds.d_width_of
  have G_width_of := ok_width_of (P := P) (w := w) (base := base) T Ds D_width_of
  refine D.F.ok sc_law_right (fun vs H Q E h => ?_) (fun cdv A outer s H vs Q E hr h => ?_)
  · obtain ⟨b, rfl, _⟩ := h
    rfl
  · obtain ⟨b, rfl, hb, q⟩ := h
    have hr_law_take := hr.mono (show 1 ≤ 4 by decide)
    have hr_law_many := hr.mono (show 2 ≤ 4 by decide)
    have hr_law_web := hr.mono (show 3 ≤ 4 by decide)
    have hr_law_tree := hr.mono (show 3 ≤ 4 by decide)
    have hr_law_ring := hr.mono (show 3 ≤ 4 by decide)
    have hr_law_order := hr.mono (show 2 ≤ 4 by decide)
    have hr_law_widths := hr.mono (show 1 ≤ 4 by decide)
    have hr_width_of := hr.mono (show 3 ≤ 4 by decide)
    refine ⟨_, (pss_cons (ps_set (i := 1) sc_law_right.nd rfl (Or.inl rfl) (pe_call G_law_many hr_law_many (by rfl) D_law_many.g D_law_many.F.kp D_law_many.b .nil pass0 (pa_cons (pv 0) (pa_cons pe_int (pa_cons pe_int (pa_cons pe_int pa_nil))))))
      (pss_cons (ps_set (i := 2) sc_law_right.nd rfl (Or.inl rfl) (pe_callV (gcons (sp := spAnyWeb K) (G_law_web.imp (fun _ _ _ _ h => any_web h)) hr_law_web D_law_web.F.kp D_law_web.b (gcons (sp := spAnyWeb K) (G_law_tree.imp (fun _ _ _ _ h => any_tree h)) hr_law_tree D_law_tree.F.kp D_law_tree.b (gcons (sp := spAnyWeb K) (G_law_ring.imp (fun _ _ _ _ h => any_ring h)) hr_law_ring D_law_ring.F.kp D_law_ring.b gnil))) (pe_ix ix_list (pe_lst (pa_cons (pe_glob (v := .ref f_law_web) (by rfl) D_law_web.g rfl) (pa_cons (pe_glob (v := .ref f_law_tree) (by rfl) D_law_tree.g rfl) (pa_cons (pe_glob (v := .ref f_law_ring) (by rfl) D_law_ring.g rfl) pa_nil)))) (pe_call G_law_take hr_law_take (by rfl) D_law_take.g D_law_take.F.kp D_law_take.b .nil pass0 (pa_cons (pv 0) (pa_cons pe_int pa_nil))) (fun _ _ => rfl)) (pa_cons (pv 0) (pa_cons (pv 1) pa_nil))))
      (pss_cons (ps_for PassesOwn.never rfl (pi_range1 (by rfl) T.m_range (pa_cons pe_int pa_nil)) (pg_name (i := 3) sc_law_right.nd rfl (Or.inl rfl))
        (pss_cons (ps_set (i := 4) sc_law_right.nd rfl (Or.inl rfl) (pe_call G_law_order hr_law_order (by rfl) D_law_order.g D_law_order.F.kp D_law_order.b .nil pass0 (pa_cons (pv 0) (pa_cons (pv 2) pa_nil))))
        (pss_cons (ps_set (i := 5) sc_law_right.nd rfl (Or.inl rfl) (pe_callTy call_list_of (by rfl) T.m_list (by decide +kernel) (pa_cons (pv 4) pa_nil)))
        (pss_cons (ps_set (i := 6) sc_law_right.nd rfl (Or.inl rfl) (pe_callB (cr_max rfl) (by rfl) T.m_max (by decide +kernel) (pa_cons (pe_call G_law_widths hr_law_widths (by rfl) D_law_widths.g D_law_widths.F.kp D_law_widths.b .nil pass0 (pa_cons (pv 2) (pa_cons (pv 4) pa_nil))) pa_nil)))
        (pss_cons (ps_set (i := 7) sc_law_right.nd rfl (Or.inl rfl) (pe_call G_width_of hr_width_of (by rfl) D_width_of.g D_width_of.F.kp D_width_of.b .nil pass0 (pa_cons (pv 2) (pa_cons (pv 4) pa_nil))))
        (pss_one (ps_if (PW.pt (pw_or (pt_val (pe_callB call_isi (by rfl) T.m_isinstance (by decide +kernel) (pa_cons (pv 7) (pa_cons (pe_bltn (v := .ty "bool") (by rfl) T.m_bool (by decide +kernel) rfl) pa_nil)))) (pw_or (pt_cmpR op_ne (pv 7) (pv 6) (nomark _)) (pw_or (pt_cmpR (op_neD hr.units) (pv 4) (pv 5) (nomark _)) (pw_or1 (pt_cmpR op_ne (pe_call G_width_of hr_width_of (by rfl) D_width_of.g D_width_of.F.kp D_width_of.b .nil pass0 (pa_cons (pv 2) (pa_cons (pe_callTy call_tuple_of (by rfl) T.m_tuple (by decide +kernel) (pa_cons (pv 4) pa_nil)) pa_nil))) (pv 6) (nomark _)))))))
          (pss_one (ps_ret pe_bl))
          pss_nil)))))))
      (pss_cons (ps_set (i := 8) sc_law_right.nd rfl (Or.inl rfl) (pe_callTy (call_list_rng rfl) (by rfl) T.m_list (by decide +kernel) (pa_cons (pe_callTy cr_range1 (by rfl) T.m_range (by decide +kernel) (pa_cons (pv 1) pa_nil)) pa_nil)))
      (pss_cons (ps_if (PW.pt (pw_or (pt_cmpR op_ne (pe_call G_width_of hr_width_of (by rfl) D_width_of.g D_width_of.F.kp D_width_of.b .nil pass0 (pa_cons (pe_tup (pa_cons (pv 1) (pa_cons (pe_tup pa_nil) pa_nil))) (pa_cons (pv 8) pa_nil))) pe_int (nomark _)) (pw_or1 (pt_cmpR op_ne (pe_call G_width_of hr_width_of (by rfl) D_width_of.g D_width_of.F.kp D_width_of.b .nil pass0 (pa_cons (pe_call G_law_ring hr_law_ring (by rfl) D_law_ring.g D_law_ring.F.kp D_law_ring.b .nil pass0 (pa_cons (pv 0) (pa_cons (pv 1) pa_nil))) (pa_cons (pv 8) pa_nil))) (pe_ix ix_list (pe_lst (pa_cons pe_int (pa_cons pe_int (pa_cons pe_int pa_nil)))) (pe_callB (call_min2 rfl) (by rfl) T.m_min (by decide +kernel) (pa_cons (pe_op op_sub (pv 1) pe_int) (pa_cons pe_int pa_nil))) (fun _ _ => rfl)) (nomark _)))))
        (pss_one (ps_ret pe_bl))
        pss_nil)
      (pss_cons (ps_set (i := 9) sc_law_right.nd rfl (Or.inl rfl) (pe_tup (pa_cons (pv 1) (pa_cons (pe_callTy call_tuple_of (by rfl) T.m_tuple (by decide +kernel) (pa_cons (pe_lc (own := [("_law_place", 10)]) (g := (gName 10)) (by rfl) sc_law_right.nd (pi_range1 (by rfl) T.m_range (pa_cons (pe_op op_sub (pv 1) pe_int) pa_nil)) (blkOk_by (own := [("_law_place", 10)]) (N := nm_law_right) (sc := defScope s_law_right) (by decide +kernel)) (fun _ _ _ _ _ => (pg_name (i := 10) sc_law_right.nd rfl (Or.inl rfl))) (fun _ _ _ _ _ => pts_nil) (fun _ _ _ _ _ => (pe_tup (pa_cons (pv 10) (pa_cons (pe_op op_add (pv 10) pe_int) (pa_cons pe_int pa_nil)))))) pa_nil)) pa_nil))))
      (pss_one (ps_ret (pe_cmpR op_eq (pe_call G_width_of hr_width_of (by rfl) D_width_of.g D_width_of.F.kp D_width_of.b .nil pass0 (pa_cons (pv 9) (pa_cons (pe_revL (pv 8)) pa_nil))) (pe_callB (call_min2 rfl) (by rfl) T.m_min (by decide +kernel) (pa_cons pe_int (pa_cons (pe_op op_sub (pv 1) pe_int) pa_nil))) (nomark _)))))))))), ?_⟩
    have w0 : Wd [b] (mi H [b]) H := ⟨mi_ex, fun s m => mi_no m, fun s m => by rw [List.mem_singleton.mp m]; exact hb.some⟩
    refine st_seq ?_
    refine ⟨_, rfl, b, 1, 7, 30, 0, rfl, hb, by decide, by decide, by decide, by decide, by decide, fun n H1 hn hb1 => ?_⟩
    have hn1 : 1 ≤ n := by omega
    have hn30 : n ≤ 30 := by omega
    have hlenr : (rngI 0 n.toNat).length = n.toNat := rngI_len
    refine st_gn ?_
    dsimp only
    -- the web
    refine st_seq ?_
    refine st_set ?_
    refine ⟨Nat.le_of_ble_eq_true rfl, fun L hL => ⟨_, rfl, b, 3, _, rfl, hb1.at_.ex (Ex.new hL), by omega, by decide, by decide, fun o H2 o0 o1 hb2 => ?_⟩⟩
    have nLb : L ≠ b := (hb1.at_.ne hL).symm
    have hL2 := hb2.at nLb (upd_same (H := H1) (a := L) (o := .lst [.ref f_law_web, .ref f_law_tree, .ref f_law_ring]))
    have hb2' := hb1.trans (Bx.pre (Ex.new hL) hb2)
    obtain ⟨p, hp, hat, hp2⟩ := atR (f1 := f_law_web) (f2 := f_law_tree) (f3 := f_law_ring) (sp := spAnyWeb K) o0 o1
    refine ⟨L, _, o, _, rfl, rfl, sq_of hL2, hat, p, hp, rfl, _, rfl, _, rfl, ?_⟩
    rw [hp2]
    refine ⟨[b], b, n, _, rfl, List.mem_cons_self, hb2'.def w0.at_, hb2'.at_, by omega, hn1, hn30, fun v2 H3 ts hin htl hd hb3 => ?_⟩
    have hb3 := hb2'.trans hb3
    obtain ⟨w3, eB3⟩ := w0.bx List.mem_cons_self hb3
    have hbox3 : BoxAt H3 b 1100 := hb3.at_.mono (by omega)
    dsimp only
    refine st_seq ?_
    -- three orders
    refine st_for (K := K) (rngI 0 3) PyData.int w3 (wk_rng1 (j := 3) (ea_cons ev_int ea_nil) (by decide)) fun B4 H4 e4 eB4 w4 => ⟨fun j σ' H' => ∃ B', Ex B4 B' ∧ Wd [b] B' H' ∧ Xs [b] H H' ∧ BoxAt H' b (1100 + j * 100) ∧ ∃ x3 x4 x5 x6 x7, σ' = [some (.ref b), some (.int n), some v2, x3, x4, x5, x6, x7, none, none, none],
      ⟨B4, Ex.refl _, w4, hb3.x.sub1 e4, hbox3.ex e4, _, _, _, _, _, rfl⟩, ?_, ?_⟩
    · rintro j k σ' H5 hj ⟨B5, eB5, w5, x5, hB5, y3, y4, y5, y6, y7, rfl⟩
      have hjl := (List.getElem?_eq_some_iff.mp hj).1
      rw [rngI_len] at hjl
      refine ⟨[b], B5, eB5, w5, fun xt B6 H6 e6 eB6 w6 hxt => ?_⟩
      cases hxt
      have hd6 := Dq.mono (eB4.trans (eB5.trans eB6)) hd
      refine st_gn ?_
      dsimp only
      refine st_seq ?_
      refine ⟨_, rfl, _, rfl, [b], b, v2, n, ts, _, rfl, List.mem_cons_self, w6.at_, Dq.mono (ex_mi w6.ex w6.no) hd6, by omega, by omega, hB5.ex e6, by omega, fun v7 H7 order ho hd7 hb7 => ?_⟩
      obtain ⟨w7, eB7⟩ := w6.bx List.mem_cons_self hb7
      replace hd6 := Dq.mono eB7 hd6
      have x7 : Xs [b] H H7 := x5.trans ((Xs.of e6).trans hb7.x)
      obtain ⟨mx, hmx⟩ := isMax_ex (ns := widths ts order) (fun z => by
        have := congrArg List.length z
        unfold widths at this
        rw [List.length_map, List.length_range, ho.len] at this
        simp at this
        omega)
      refine st_gn ?_
      dsimp only
      refine st_seq ?_
      refine st_asg w7 (ev_list (t := false) (ev_var (v := v7) rfl hd7)) fun v8 B8 H8 e8 eB8 w8 h8 => ?_
      replace hd6 := Dq.mono eB8 hd6
      replace hd7 := Dq.mono eB8 hd7
      dsimp only
      refine st_seq ?_
      refine st_asg w8 (ev_maxI (ns := widths ts order) (ev_call (f := fWidths) (d := .list ((widths ts order).map .int)) (ea_cons (ev_var rfl hd6) (ea_cons (ev_var rfl hd7) ea_nil)) ⟨n, ts, order, rfl, by omega, by omega, hin, htl, ho, rfl⟩) hmx) fun v9 B9 H9 e9 eB9 w9 h9 => ?_
      cases h9
      replace hd6 := Dq.mono eB9 hd6
      replace hd7 := Dq.mono eB9 hd7
      replace h8 := Dq.mono eB9 h8
      dsimp only
      refine st_seq ?_
      refine st_asg w9 (ev_call (f := fWidth) (d := .int mx) (ea_cons (ev_var rfl hd6) (ea_cons (ev_var rfl hd7) ea_nil)) ⟨n, ts, false, order, mx, rfl, hn1, by omega, hin, htl, ho, hmx, rfl⟩) fun v10 B10 H10 e10 eB10 w10 h10 => ?_
      cases h10
      replace hd6 := Dq.mono eB10 hd6
      replace hd7 := Dq.mono eB10 hd7
      replace h8 := Dq.mono eB10 h8
      dsimp only
      refine st_if w10 (eb_is (c := false) (eb_or (eb_B (ev_isi (T := "bool") (b := false) (ev_var rfl (.int mx)) rfl)) fun _ => eb_or (eb_test (K := K) (ev_neI (ev_var rfl (.int mx)) (ev_var rfl (.int mx)))) fun _ => eb_or (eb_test (ev_neD (ev_var rfl hd7) (ev_var rfl h8) (shaped_ints order) (shaped_ints order))) fun _ => eb_test (K := K) (ev_neI (ev_call (f := fWidth) (d := .int mx) (ea_cons (ev_var rfl hd6) (ea_cons (ev_tuple (t := false) (ev_var (v := v7) rfl hd7)) ea_nil)) ⟨n, ts, true, order, mx, rfl, hn1, by omega, hin, htl, ho, hmx, rfl⟩) (ev_var rfl (.int mx)))) (by rw [eqv_refl_ints]; simp)) (fun z => by cases z) fun _ B11 H11 e11 eB11 w11 => ?_
      exact ⟨B11, eB5.trans (eB6.trans (eB7.trans (eB8.trans (eB9.trans (eB10.trans eB11))))), w11, x7.trans (Xs.of (e8.trans (e9.trans (e10.trans e11)))), (((((hb7.at_.ex e8).ex e9).ex e10).ex e11)).mono (by omega), _, _, _, _, _, rfl⟩
    · rintro σ' H5 ⟨B5, eB5, w5, x5, hB5, y3, y4, y5, y6, y7, rfl⟩
      rw [rngI_len] at hB5
      refine ⟨⟨_, B5, eB5, w5⟩, ?_⟩
      -- some
      have hor := Order.rng' (n := n) (by omega)
      dsimp only
      refine st_seq ?_
      refine st_asg w5 (ev_listrange (K := K) (j := n) (ev_var rfl (.int n)) (by omega)) fun v8 B6 H6 e6 eB6 w6 h8 => ?_
      dsimp only
      refine st_seq ?_
      have hB6 := hB5.ex e6
      -- the empty web's, the ring's
      have step1 := (ev_neI (K := K) (ev_call (K := K) (E := E0) (f := fWidth) (d := .int 0) (σ := [some (.ref b), some (.int n), some v2, y3, y4, y5, y6, y7, some v8, none, none]) (ea_cons (ev_tup (K := K) (ea_cons (ev_var (i := 1) (v := .int n) rfl (.int n)) (ea_cons (ev_tup ea_nil (Nat.le_of_ble_eq_true rfl)) ea_nil)) (Nat.le_of_ble_eq_true rfl)) (ea_cons (ev_var (i := 8) (v := v8) rfl h8) ea_nil)) ⟨n, [], false, _, 0, rfl, hn1, by omega, (fun t h => by cases h), Nat.zero_le _, hor, empty_width hn1, rfl⟩) (ev_int (i := 0)))
      refine step1.bind w6 fun v9 B7 H7 e7 eB7 w7 h9 => ?_
      cases h9
      refine ⟨_, rfl, ?_⟩
      refine ⟨_, rfl, _, rfl, [b], b, n, _, rfl, List.mem_cons_self, w7.at_, hB6.ex e7, by omega, hn1, by omega, fun vr H8 rs hR hdr hb8 => ?_⟩
      obtain ⟨w8, eB8⟩ := w7.bx List.mem_cons_self hb8
      have h88 := Dq.mono (eB7.trans eB8) h8
      have step2 := (ev_neI (K := K) (ev_call (K := K) (E := E0) (f := fWidth) (d := .int (if (2 : Int) < n - 1 then 2 else n - 1)) (σ := [some (.ref b), some (.int n), some v2, y3, y4, y5, y6, y7, some v8, none, none]) (ea_cons (ev_c hdr) (ea_cons (ev_var (i := 8) (v := v8) rfl h88) ea_nil)) ⟨n, rs, false, _, _, rfl, hn1, by omega, hR.ins, by have := hR.len; omega, hor, ring_width hR hn1, rfl⟩) (ev_ixL (K := K) (i := if (2 : Int) < n - 1 then 2 else n - 1) (ev_lst (ea_cons (ev_int (i := 0)) (ea_cons (ev_int (i := 1)) (ea_cons (ev_int (i := 2)) ea_nil))) (Nat.le_of_ble_eq_true rfl)) (ev_min2 (ev_sub (ev_var (i := 1) (v := .int n) rfl (.int n)) (ev_int (i := 1))) (ev_int (i := 2))) (d := .int (if (2 : Int) < n - 1 then 2 else n - 1)) (by
          obtain h | h | h : (if (2 : Int) < n - 1 then 2 else n - 1) = 0 ∨ (if (2 : Int) < n - 1 then 2 else n - 1) = 1 ∨ (if (2 : Int) < n - 1 then 2 else n - 1) = 2 := by split <;> omega
          · rw [h]; rfl
          · rw [h]; rfl
          · rw [h]; rfl)))
      refine step2.bind w8 fun v10 B9 H9 e9 eB9 w9 h10 => ?_
      have ef : (!decide ((if (2 : Int) < n - 1 then 2 else n - 1) = (if (2 : Int) < n - 1 then 2 else n - 1))) = false := by simp
      rw [ef] at h10
      cases h10
      refine ⟨_, rfl, ?_⟩
      refine st_next ?_
      have h89 := Dq.mono eB9 h88
      dsimp only
      refine st_seq ?_
      refine st_asg w9 (ev_is (d' := webD n (lineT n)) (ev_tup (ea_cons (ev_var rfl (.int n)) (ea_cons (ev_tuple (t := false) (ev_lc (rngI 0 (n - 1).toNat) PyData.int (fun _ => true) (fun p => tieD (p, p + 1, 1)) (wk_rng1 (ea_cons (ev_sub (ev_var rfl (.int n)) ev_int) ea_nil) (by omega)) (by rw [rngI_len]; omega) fun p hp => turn_name (fun _ => rfl) (fun _ _ _ _ => eb_yes) fun y B10 e10 hy _ => ev_tup (ea_cons (ev_var rfl hy) (ea_cons (ev_add (ev_var rfl hy) ev_int) (ea_cons ev_int ea_nil))) (Nat.le_of_ble_eq_true rfl))) ea_nil)) (Nat.le_of_ble_eq_true rfl)) (by rw [filter_yes]; unfold lineT webD; rw [List.map_map]; rfl)) fun v11 B10 H10 e10 eB10 w10 h11 => ?_
      have h8a := Dq.mono eB10 h89
      have hlw := line_width hn1
      dsimp only
      refine st_ret w10 (ev_is (d' := .bool true) (ev_eqI (ev_call (f := fWidth) (d := .int (if n - 1 < (1 : Int) then n - 1 else 1)) (ea_cons (ev_var rfl h11) (ea_cons (ev_is (d' := .list (((rngI 0 n.toNat).reverse).map .int)) (ev_revL (ev_var rfl h8a)) (by rw [List.map_reverse])) ea_nil)) ⟨n, lineT n, false, (rngI 0 n.toNat).reverse, _, rfl, hn1, by omega, line_in, by unfold lineT; rw [List.length_map, rngI_len]; omega, ⟨List.reverse_perm _⟩, hlw, rfl⟩) (ev_min2 ev_int (ev_sub (ev_var rfl (.int n)) ev_int))) (by simp)) fun v B11 H11 e11 eB11 w11 h => ?_
      cases h
      exact q _ (x5.trans ((Xs.of (e6.trans e7)).trans (hb8.x.trans (Xs.of (e9.trans (e10.trans e11))))))
end
end Pw

/-! ## K43_law -/
namespace Pw
open PySem L2 Evl
section
variable {P : Program} {w : World} {K : PySem.W.Frag} {mg : Str → Option Value} {base : Heap}
theorem sc_law : FnScope nm_law ps_law (defScope s_law) := ⟨rfl, rfl, rfl, by decide +kernel, rfl, by decide +kernel, by decide +kernel⟩
theorem ok_law {f : Addr} {fd : FuncData} (T : Txt mg) (Ds : Defs K mg) (D : Dfn K mg "law" s_law ps_law f fd) : FnOk P w K mg base CX0 6 f fd ps_law (spLaw K) := by
  obtain ⟨f_law_box, fd_law_box, D_law_box⟩ := Ds.d_law_box
  have G_law_box := ok_law_box (P := P) (w := w) (base := base) T Ds D_law_box
  obtain ⟨f_law_right, fd_law_right, D_law_right⟩ := Ds.d_law_right
  have G_law_right := ok_law_right (P := P) (w := w) (base := base) T Ds D_law_right
  refine D.F.ok sc_law (fun vs H Q E h => ?_) (fun cdv A outer s H vs Q E hr h => ?_)
  · obtain ⟨a, ns, rfl, _⟩ := h
    rfl
  · obtain ⟨a, ns, rfl, hS, hlen, q⟩ := h
    have hr_law_box := hr.mono (show 2 ≤ 5 by decide)
    have hr_law_right := hr.mono (show 5 ≤ 5 by decide)
    refine ⟨_, (pss_cons (ps_for PassesOwn.never rfl (pi_range1 (by rfl) T.m_range (pa_cons (pe_callB (call_max2 rfl) (by rfl) T.m_max (by decide +kernel) (pa_cons pe_int (pa_cons (pe_callB (call_min2 rfl) (by rfl) T.m_min (by decide +kernel) (pa_cons (pe_callB call_len_seq (by rfl) T.m_len (by decide +kernel) (pa_cons (pv 0) pa_nil)) (pa_cons pe_int pa_nil))) pa_nil))) pa_nil)) (pg_name (i := 1) sc_law.nd rfl (Or.inl rfl))
        (pss_one (ps_if (pt_not (pt_val (pe_call G_law_right hr_law_right (by rfl) D_law_right.g D_law_right.F.kp D_law_right.b .nil pass0 (pa_cons (pe_call G_law_box hr_law_box (by rfl) D_law_box.g D_law_box.F.kp D_law_box.b .nil pass0 (pa_cons (pv 0) (pa_cons (pv 1) pa_nil))) pa_nil))))
          (pss_one (ps_ret pe_bl))
          pss_nil)))
      (pss_one (ps_ret pe_bl))), ?_⟩
    have w0 : Wd [] H H := ⟨Ex.refl H, (fun s m => by cases m), (fun s m => by cases m)⟩
    have hscr : Dq K H (.ref a) (.list (ns.map .int)) := .lst hS DqAll.ints
    obtain ⟨m, hm, hm0, hm1⟩ : ∃ m : Int, (if (if (10 : Int) < (((ns.map PyData.int).length : Nat) : Int) then 10 else (((ns.map PyData.int).length : Nat) : Int)) > 3 then (if (10 : Int) < (((ns.map PyData.int).length : Nat) : Int) then 10 else (((ns.map PyData.int).length : Nat) : Int)) else 3) = m ∧ 0 ≤ m ∧ m ≤ 63 := by
      refine ⟨_, rfl, ?_⟩
      rw [List.length_map]
      split <;> split <;> omega
    refine st_for (K := K) (rngI 0 m.toNat) PyData.int w0 (wk_rng1 (ea_cons (ev_is (ev_max2 ev_int (ev_min2 (ev_len (t := false) (ev_var rfl hscr)) ev_int)) (by rw [← hm])) ea_nil) (by omega)) fun B1 H1 e1 eB1 w1 => ⟨fun i σ' H' => Ex H1 H' ∧ ∃ x1, σ' = [some (.ref a), x1], ⟨Ex.refl _, none, rfl⟩, ?_, ?_⟩
    · rintro i k σ' H' hk ⟨eH, x1, rfl⟩
      refine ⟨[], B1, Ex.refl _, w1.ext eH, fun x B2 H2 e2 eB2 w2 hx => ?_⟩
      cases hx
      have hk2 := rngI_mem.mp (List.mem_of_getElem? hk)
      obtain ⟨kn, rfl⟩ : ∃ kn : Nat, k = (kn : Int) := ⟨k.toNat, by omega⟩
      have eF : Ex H H2 := e1.trans (eH.trans e2)
      refine ⟨_, rfl, _, rfl, a, ns, kn, rfl, ex_l eF hS, by omega, fun b H3 hb e3 hB3 => ?_⟩
      refine ⟨b, rfl, hB3, fun H4 x4 => ⟨true, rfl, ?_⟩⟩
      exact ⟨(eH.trans e2).trans (Xs.ex1 x4 e3 hb), _, rfl⟩
    · rintro σ' H' ⟨eH, x1, rfl⟩
      exact ⟨⟨[], B1, Ex.refl _, w1.ext eH⟩, q _⟩
end
end Pw

namespace Pw
open PySem L2 Evl
theorem all_mk {l : PySem.W.OpenLaw} {w : World} {K : PySem.W.Frag} {h : Heap} {mg : Str → Option Value} {fa f1 f2 f3 f4 f5 f6 f7 f8 f9 f10 f11 f12 f13 f14 f15 : Addr} (X : K.In h) (G : h.Ns mainGlobals mg) (hfa : mg "law" = some (.ref fa))
    {od1 an1 od2 an2 od3 an3 od4 an4 od5 an5 od6 an6 od7 an7 od8 an8 od9 an9 od10 an10 od11 an11 od12 an12 od13 an13 od14 an14 od15 an15 : Option Addr} {sl1 sl2 sl3 sl4 sl5 sl6 sl7 sl8 sl9 sl10 sl11 sl12 sl13 sl14 sl15 : Array (Option Value)} {oc1 kV1 dc1 pm1 cd1 ct1 oc2 kV2 dc2 pm2 cd2 ct2 oc3 kV3 dc3 pm3 cd3 ct3 oc4 kV4 dc4 pm4 cd4 ct4 oc5 kV5 dc5 pm5 cd5 ct5 oc6 kV6 dc6 pm6 cd6 ct6 oc7 kV7 dc7 pm7 cd7 ct7 oc8 kV8 dc8 pm8 cd8 ct8 oc9 kV9 dc9 pm9 cd9 ct9 oc10 kV10 dc10 pm10 cd10 ct10 oc11 kV11 dc11 pm11 cd11 ct11 oc12 kV12 dc12 pm12 cd12 ct12 oc13 kV13 dc13 pm13 cd13 ct13 oc14 kV14 dc14 pm14 cd14 ct14 oc15 kV15 dc15 pm15 cd15 ct15 : Value}
    (a1 : PySem.W.nsIn K mainGlobals "beside" = some (some (.ref f1))) (l1 : K.lookup f1 = some ⟨oc1, od1, .func (PySem.W.fnOf "beside" "beside" (defArgs s_beside) (defBody s_beside) (defScope s_beside) .none kV1 dc1 pm1 an1 cd1 ct1), sl1⟩) (c1 : PySem.W.codeIn K cd1 "beside" = true) (k1 : PySem.W.keepIn K (.ref f1) = true)
    (a2 : PySem.W.nsIn K mainGlobals "open_behind" = some (some (.ref f2))) (l2 : K.lookup f2 = some ⟨oc2, od2, .func (PySem.W.fnOf "open_behind" "open_behind" (defArgs s_open_behind) (defBody s_open_behind) (defScope s_open_behind) .none kV2 dc2 pm2 an2 cd2 ct2), sl2⟩) (c2 : PySem.W.codeIn K cd2 "open_behind" = true) (k2 : PySem.W.keepIn K (.ref f2) = true)
    (a3 : PySem.W.nsIn K mainGlobals "width_of" = some (some (.ref f3))) (l3 : K.lookup f3 = some ⟨oc3, od3, .func (PySem.W.fnOf "width_of" "width_of" (defArgs s_width_of) (defBody s_width_of) (defScope s_width_of) .none kV3 dc3 pm3 an3 cd3 ct3), sl3⟩) (c3 : PySem.W.codeIn K cd3 "width_of" = true) (k3 : PySem.W.keepIn K (.ref f3) = true)
    (a4 : PySem.W.nsIn K mainGlobals "_law_cell_at" = some (some (.ref f4))) (l4 : K.lookup f4 = some ⟨oc4, od4, .func (PySem.W.fnOf "_law_cell_at" "_law_cell_at" (defArgs s_law_cell_at) (defBody s_law_cell_at) (defScope s_law_cell_at) .none kV4 dc4 pm4 an4 cd4 ct4), sl4⟩) (c4 : PySem.W.codeIn K cd4 "_law_cell_at" = true) (k4 : PySem.W.keepIn K (.ref f4) = true)
    (a5 : PySem.W.nsIn K mainGlobals "_law_box" = some (some (.ref f5))) (l5 : K.lookup f5 = some ⟨oc5, od5, .func (PySem.W.fnOf "_law_box" "_law_box" (defArgs s_law_box) (defBody s_law_box) (defScope s_law_box) .none kV5 dc5 pm5 an5 cd5 ct5), sl5⟩) (c5 : PySem.W.codeIn K cd5 "_law_box" = true) (k5 : PySem.W.keepIn K (.ref f5) = true)
    (a6 : PySem.W.nsIn K mainGlobals "_law_take" = some (some (.ref f6))) (l6 : K.lookup f6 = some ⟨oc6, od6, .func (PySem.W.fnOf "_law_take" "_law_take" (defArgs s_law_take) (defBody s_law_take) (defScope s_law_take) .none kV6 dc6 pm6 an6 cd6 ct6), sl6⟩) (c6 : PySem.W.codeIn K cd6 "_law_take" = true) (k6 : PySem.W.keepIn K (.ref f6) = true)
    (a7 : PySem.W.nsIn K mainGlobals "_law_many" = some (some (.ref f7))) (l7 : K.lookup f7 = some ⟨oc7, od7, .func (PySem.W.fnOf "_law_many" "_law_many" (defArgs s_law_many) (defBody s_law_many) (defScope s_law_many) .none kV7 dc7 pm7 an7 cd7 ct7), sl7⟩) (c7 : PySem.W.codeIn K cd7 "_law_many" = true) (k7 : PySem.W.keepIn K (.ref f7) = true)
    (a8 : PySem.W.nsIn K mainGlobals "_law_weight" = some (some (.ref f8))) (l8 : K.lookup f8 = some ⟨oc8, od8, .func (PySem.W.fnOf "_law_weight" "_law_weight" (defArgs s_law_weight) (defBody s_law_weight) (defScope s_law_weight) .none kV8 dc8 pm8 an8 cd8 ct8), sl8⟩) (c8 : PySem.W.codeIn K cd8 "_law_weight" = true) (k8 : PySem.W.keepIn K (.ref f8) = true)
    (a9 : PySem.W.nsIn K mainGlobals "_law_web" = some (some (.ref f9))) (l9 : K.lookup f9 = some ⟨oc9, od9, .func (PySem.W.fnOf "_law_web" "_law_web" (defArgs s_law_web) (defBody s_law_web) (defScope s_law_web) .none kV9 dc9 pm9 an9 cd9 ct9), sl9⟩) (c9 : PySem.W.codeIn K cd9 "_law_web" = true) (k9 : PySem.W.keepIn K (.ref f9) = true)
    (a10 : PySem.W.nsIn K mainGlobals "_law_tree" = some (some (.ref f10))) (l10 : K.lookup f10 = some ⟨oc10, od10, .func (PySem.W.fnOf "_law_tree" "_law_tree" (defArgs s_law_tree) (defBody s_law_tree) (defScope s_law_tree) .none kV10 dc10 pm10 an10 cd10 ct10), sl10⟩) (c10 : PySem.W.codeIn K cd10 "_law_tree" = true) (k10 : PySem.W.keepIn K (.ref f10) = true)
    (a11 : PySem.W.nsIn K mainGlobals "_law_order" = some (some (.ref f11))) (l11 : K.lookup f11 = some ⟨oc11, od11, .func (PySem.W.fnOf "_law_order" "_law_order" (defArgs s_law_order) (defBody s_law_order) (defScope s_law_order) .none kV11 dc11 pm11 an11 cd11 ct11), sl11⟩) (c11 : PySem.W.codeIn K cd11 "_law_order" = true) (k11 : PySem.W.keepIn K (.ref f11) = true)
    (a12 : PySem.W.nsIn K mainGlobals "_law_widths" = some (some (.ref f12))) (l12 : K.lookup f12 = some ⟨oc12, od12, .func (PySem.W.fnOf "_law_widths" "_law_widths" (defArgs s_law_widths) (defBody s_law_widths) (defScope s_law_widths) .none kV12 dc12 pm12 an12 cd12 ct12), sl12⟩) (c12 : PySem.W.codeIn K cd12 "_law_widths" = true) (k12 : PySem.W.keepIn K (.ref f12) = true)
    (a13 : PySem.W.nsIn K mainGlobals "_law_ring" = some (some (.ref f13))) (l13 : K.lookup f13 = some ⟨oc13, od13, .func (PySem.W.fnOf "_law_ring" "_law_ring" (defArgs s_law_ring) (defBody s_law_ring) (defScope s_law_ring) .none kV13 dc13 pm13 an13 cd13 ct13), sl13⟩) (c13 : PySem.W.codeIn K cd13 "_law_ring" = true) (k13 : PySem.W.keepIn K (.ref f13) = true)
    (a14 : PySem.W.nsIn K mainGlobals "_law_right" = some (some (.ref f14))) (l14 : K.lookup f14 = some ⟨oc14, od14, .func (PySem.W.fnOf "_law_right" "_law_right" (defArgs s_law_right) (defBody s_law_right) (defScope s_law_right) .none kV14 dc14 pm14 an14 cd14 ct14), sl14⟩) (c14 : PySem.W.codeIn K cd14 "_law_right" = true) (k14 : PySem.W.keepIn K (.ref f14) = true)
    (a15 : PySem.W.nsIn K mainGlobals "law" = some (some (.ref f15))) (l15 : K.lookup f15 = some ⟨oc15, od15, .func (PySem.W.fnOf "law" "law" (defArgs s_law) (defBody s_law) (defScope s_law) .none kV15 dc15 pm15 an15 cd15 ct15), sl15⟩) (c15 : PySem.W.codeIn K cd15 "law" = true) (k15 : PySem.W.keepIn K (.ref f15) = true)
    (z1 : PySem.W.nsIn K mainGlobals "len" = some none)
    (z2 : PySem.W.nsIn K mainGlobals "abs" = some none)
    (z3 : PySem.W.nsIn K mainGlobals "int" = some none)
    (z4 : PySem.W.nsIn K mainGlobals "dict" = some none)
    (z5 : PySem.W.nsIn K mainGlobals "sum" = some none)
    (z6 : PySem.W.nsIn K mainGlobals "range" = some none)
    (z7 : PySem.W.nsIn K mainGlobals "min" = some none)
    (z8 : PySem.W.nsIn K mainGlobals "max" = some none)
    (z9 : PySem.W.nsIn K mainGlobals "tuple" = some none)
    (z10 : PySem.W.nsIn K mainGlobals "sorted" = some none)
    (z11 : PySem.W.nsIn K mainGlobals "isinstance" = some none)
    (z12 : PySem.W.nsIn K mainGlobals "list" = some none)
    (z13 : PySem.W.nsIn K mainGlobals "str" = some none)
    (z14 : PySem.W.nsIn K mainGlobals "bool" = some none)
    (z15 : PySem.W.nsIn K mainGlobals "all" = some none)
    (z16 : PySem.W.nsIn K mainGlobals "any" = some none)
    (z17 : PySem.W.nsIn K mainGlobals "zip" = some none)
    (z18 : PySem.W.nsIn K mainGlobals "enumerate" = some none)
    (z19 : PySem.W.nsIn K mainGlobals "reversed" = some none)
    (z20 : PySem.W.nsIn K mainGlobals "set" = some none)
    : ∃ fd : FuncData, (∀ (s : Shared) (v : Value), BindsTo s fd ⟨[v], []⟩ [("_law_script", v)]) ∧ ∀ base : Heap, K.In base → base.Ns mainGlobals mg → FnOk l.prog w K mg base CX0 6 fa fd ps_law (spLaw K) := by
  have e := hfa.symm.trans (PySem.W.mg_of X G a15)
  cases e
  have T : Txt mg := ⟨PySem.W.mg_none_of X G z1, PySem.W.mg_none_of X G z2, PySem.W.mg_none_of X G z3, PySem.W.mg_none_of X G z4, PySem.W.mg_none_of X G z5, PySem.W.mg_none_of X G z6, PySem.W.mg_none_of X G z7, PySem.W.mg_none_of X G z8, PySem.W.mg_none_of X G z9, PySem.W.mg_none_of X G z10, PySem.W.mg_none_of X G z11, PySem.W.mg_none_of X G z12, PySem.W.mg_none_of X G z13, PySem.W.mg_none_of X G z14, PySem.W.mg_none_of X G z15, PySem.W.mg_none_of X G z16, PySem.W.mg_none_of X G z17, PySem.W.mg_none_of X G z18, PySem.W.mg_none_of X G z19, PySem.W.mg_none_of X G z20⟩
  have F1 := fun_mk (st := s_beside) l1 c1 k1
  have D1 : Dfn K mg "beside" s_beside ps_beside _ _ := ⟨F1, PySem.W.mg_of X G a1, F1.binds (ps := ps_beside) fun _ _ _ _ _ _ us hl => match us, hl with | [_], _ => rfl⟩
  have F2 := fun_mk (st := s_open_behind) l2 c2 k2
  have D2 : Dfn K mg "open_behind" s_open_behind ps_open_behind _ _ := ⟨F2, PySem.W.mg_of X G a2, F2.binds (ps := ps_open_behind) fun _ _ _ _ _ _ us hl => match us, hl with | [_, _], _ => rfl⟩
  have F3 := fun_mk (st := s_width_of) l3 c3 k3
  have D3 : Dfn K mg "width_of" s_width_of ps_width_of _ _ := ⟨F3, PySem.W.mg_of X G a3, F3.binds (ps := ps_width_of) fun _ _ _ _ _ _ us hl => match us, hl with | [_, _], _ => rfl⟩
  have F4 := fun_mk (st := s_law_cell_at) l4 c4 k4
  have D4 : Dfn K mg "_law_cell_at" s_law_cell_at ps_law_cell_at _ _ := ⟨F4, PySem.W.mg_of X G a4, F4.binds (ps := ps_law_cell_at) fun _ _ _ _ _ _ us hl => match us, hl with | [_, _], _ => rfl⟩
  have F5 := fun_mk (st := s_law_box) l5 c5 k5
  have D5 : Dfn K mg "_law_box" s_law_box ps_law_box _ _ := ⟨F5, PySem.W.mg_of X G a5, F5.binds (ps := ps_law_box) fun _ _ _ _ _ _ us hl => match us, hl with | [_, _], _ => rfl⟩
  have F6 := fun_mk (st := s_law_take) l6 c6 k6
  have D6 : Dfn K mg "_law_take" s_law_take ps_law_take _ _ := ⟨F6, PySem.W.mg_of X G a6, F6.binds (ps := ps_law_take) fun _ _ _ _ _ _ us hl => match us, hl with | [_, _], _ => rfl⟩
  have F7 := fun_mk (st := s_law_many) l7 c7 k7
  have D7 : Dfn K mg "_law_many" s_law_many ps_law_many _ _ := ⟨F7, PySem.W.mg_of X G a7, F7.binds (ps := ps_law_many) fun _ _ _ _ _ _ us hl => match us, hl with | [_, _, _, _], _ => rfl⟩
  have F8 := fun_mk (st := s_law_weight) l8 c8 k8
  have D8 : Dfn K mg "_law_weight" s_law_weight ps_law_weight _ _ := ⟨F8, PySem.W.mg_of X G a8, F8.binds (ps := ps_law_weight) fun _ _ _ _ _ _ us hl => match us, hl with | [_, _], _ => rfl⟩
  have F9 := fun_mk (st := s_law_web) l9 c9 k9
  have D9 : Dfn K mg "_law_web" s_law_web ps_law_web _ _ := ⟨F9, PySem.W.mg_of X G a9, F9.binds (ps := ps_law_web) fun _ _ _ _ _ _ us hl => match us, hl with | [_, _], _ => rfl⟩
  have F10 := fun_mk (st := s_law_tree) l10 c10 k10
  have D10 : Dfn K mg "_law_tree" s_law_tree ps_law_tree _ _ := ⟨F10, PySem.W.mg_of X G a10, F10.binds (ps := ps_law_tree) fun _ _ _ _ _ _ us hl => match us, hl with | [_, _], _ => rfl⟩
  have F11 := fun_mk (st := s_law_order) l11 c11 k11
  have D11 : Dfn K mg "_law_order" s_law_order ps_law_order _ _ := ⟨F11, PySem.W.mg_of X G a11, F11.binds (ps := ps_law_order) fun _ _ _ _ _ _ us hl => match us, hl with | [_, _], _ => rfl⟩
  have F12 := fun_mk (st := s_law_widths) l12 c12 k12
  have D12 : Dfn K mg "_law_widths" s_law_widths ps_law_widths _ _ := ⟨F12, PySem.W.mg_of X G a12, F12.binds (ps := ps_law_widths) fun _ _ _ _ _ _ us hl => match us, hl with | [_, _], _ => rfl⟩
  have F13 := fun_mk (st := s_law_ring) l13 c13 k13
  have D13 : Dfn K mg "_law_ring" s_law_ring ps_law_ring _ _ := ⟨F13, PySem.W.mg_of X G a13, F13.binds (ps := ps_law_ring) fun _ _ _ _ _ _ us hl => match us, hl with | [_, _], _ => rfl⟩
  have F14 := fun_mk (st := s_law_right) l14 c14 k14
  have D14 : Dfn K mg "_law_right" s_law_right ps_law_right _ _ := ⟨F14, PySem.W.mg_of X G a14, F14.binds (ps := ps_law_right) fun _ _ _ _ _ _ us hl => match us, hl with | [_], _ => rfl⟩
  have F15 := fun_mk (st := s_law) l15 c15 k15
  have D15 : Dfn K mg "law" s_law ps_law _ _ := ⟨F15, PySem.W.mg_of X G a15, F15.binds (ps := ps_law) fun _ _ _ _ _ _ us hl => match us, hl with | [_], _ => rfl⟩
  have Ds : Defs K mg := ⟨⟨_, _, D1⟩, ⟨_, _, D2⟩, ⟨_, _, D3⟩, ⟨_, _, D4⟩, ⟨_, _, D5⟩, ⟨_, _, D6⟩, ⟨_, _, D7⟩, ⟨_, _, D8⟩, ⟨_, _, D9⟩, ⟨_, _, D10⟩, ⟨_, _, D11⟩, ⟨_, _, D12⟩, ⟨_, _, D13⟩, ⟨_, _, D14⟩⟩
  exact ⟨PySem.W.fnOf "law" "law" (defArgs s_law) (defBody s_law) (defScope s_law) .none kV15 dc15 pm15 an15 cd15 ct15, fun s v => .of_eq rfl, fun base _ _ => ok_law T Ds D15⟩
end Pw
open PySem PySem.W PyProof.Rows
set_option maxHeartbeats 0 in
theorem PySem.Challenge.cw_partedweb_k43_widths_of_orders_holds : PySem.Challenge.rw_partedweb_k43_widths_of_orders.Holds := by
  w_on; o_law; k_head; (case hw => w_witness2)
  k_fill
  refine L2.walk_of (l := PySem.Challenge.rw_partedweb_k43_widths_of_orders) (n := 63) (k := 6) (x := "_law_script") (CX := fun _ => L2.CX0) (sp := fun w => Pw.spLaw _) rfl (by decide) rfl ⟨rfl, by decide, by decide⟩ (fun w h Y => PySem.W.kIn_of Y) ?F (fun _ _ a ns hl _ hS => ⟨a, ns, rfl, hS, hl, fun _ => rfl⟩) (fun _ _ _ _ _ h => h)
  case F =>
    intro w mg fa h KX G hmg
    refine' Pw.all_mk KX G hmg ?a1 ?l1 ?c1 ?k1 ?a2 ?l2 ?c2 ?k2 ?a3 ?l3 ?c3 ?k3 ?a4 ?l4 ?c4 ?k4 ?a5 ?l5 ?c5 ?k5 ?a6 ?l6 ?c6 ?k6 ?a7 ?l7 ?c7 ?k7 ?a8 ?l8 ?c8 ?k8 ?a9 ?l9 ?c9 ?k9 ?a10 ?l10 ?c10 ?k10 ?a11 ?l11 ?c11 ?k11 ?a12 ?l12 ?c12 ?k12 ?a13 ?l13 ?c13 ?k13 ?a14 ?l14 ?c14 ?k14 ?a15 ?l15 ?c15 ?k15 ?z1 ?z2 ?z3 ?z4 ?z5 ?z6 ?z7 ?z8 ?z9 ?z10 ?z11 ?z12 ?z13 ?z14 ?z15 ?z16 ?z17 ?z18 ?z19 ?z20
    (case a1 => k_is); (case l1 => k_is); (case c1 => k_is); (case k1 => k_is); (case a2 => k_is); (case l2 => k_is); (case c2 => k_is); (case k2 => k_is)
    (case a3 => k_is); (case l3 => k_is); (case c3 => k_is); (case k3 => k_is); (case a4 => k_is); (case l4 => k_is); (case c4 => k_is); (case k4 => k_is)
    (case a5 => k_is); (case l5 => k_is); (case c5 => k_is); (case k5 => k_is); (case a6 => k_is); (case l6 => k_is); (case c6 => k_is); (case k6 => k_is)
    (case a7 => k_is); (case l7 => k_is); (case c7 => k_is); (case k7 => k_is); (case a8 => k_is); (case l8 => k_is); (case c8 => k_is); (case k8 => k_is)
    (case a9 => k_is); (case l9 => k_is); (case c9 => k_is); (case k9 => k_is); (case a10 => k_is); (case l10 => k_is); (case c10 => k_is); (case k10 => k_is)
    (case a11 => k_is); (case l11 => k_is); (case c11 => k_is); (case k11 => k_is); (case a12 => k_is); (case l12 => k_is); (case c12 => k_is); (case k12 => k_is)
    (case a13 => k_is); (case l13 => k_is); (case c13 => k_is); (case k13 => k_is); (case a14 => k_is); (case l14 => k_is); (case c14 => k_is); (case k14 => k_is)
    (case a15 => k_is); (case l15 => k_is); (case c15 => k_is); (case k15 => k_is); (case z1 => k_is); (case z2 => k_is); (case z3 => k_is); (case z4 => k_is)
    (case z5 => k_is); (case z6 => k_is); (case z7 => k_is); (case z8 => k_is); (case z9 => k_is); (case z10 => k_is); (case z11 => k_is); (case z12 => k_is)
    (case z13 => k_is); (case z14 => k_is); (case z15 => k_is); (case z16 => k_is); (case z17 => k_is); (case z18 => k_is); (case z19 => k_is); (case z20 => k_is)
