import PyProof.Rows.All
import Wide.All
import OpenK.AllK
import Wide.FinOn
import HandS.ForMost
import HandS.Evl
import HandS.SortInts
import HandS.IsInst
import HandS.SetFor
import HandS.Sort
import HandS.TupAny
import HandS.Wide
import KE.SortData
import KE.KEqSeq
import PyProof.P3Eq
import KE.KDictCopyH
import PyProof.ListRange
import KE.KDictPairs
import HandS.Deep
import HandS.Zip
import HandS.Style
import KE.GoesMore
import KE.GoesEnum
import HandS.TupSets
import HandS.Conv
import HandS.More
import HandS.Iter
import HandS.TupMul
import KE.DataMinMax
import PyProof.Rows.SeqMore
import HandS.Strs
import HandS.TupLen
import PySem.Challenge.RW_partedweb_k24_what_shares_are
set_option Elab.async false
set_option linter.all false
set_option maxRecDepth 100000
set_option maxHeartbeats 8000000
/-! ## PwRules -/
namespace Pw
open PySem PySem.Spec PyProof.Rows L2 PySem.W
abbrev AIs {α β : Type} := @PySem.W.EachIs α β

/-! ### rules that the layer lacks -/
section
variable {X : Cx}
/-- one thing or the other, the first reading or the second -/
theorem pi_or {tg iter : Expr} {w1 w2 : TI} (h1 : PI X tg iter w1) (h2 : PI X tg iter w2) : PI X tg iter (fun σ H R => w1 σ H R ∨ w2 σ H R) :=
  ⟨fun pins s σ H R I h => h.elim (h1.run pins s σ H R I) (h2.run pins s σ H R I)⟩
theorem pe_or2 {e : Expr} {t1 t2 : TE} (h1 : PE X e t1) (h2 : PE X e t2) : PE X e (fun σ H Q => t1 σ H Q ∨ t2 σ H Q) :=
  ⟨fun pins s σ H Q I h => h.elim (h1.run pins s σ H Q I) (h2.run pins s σ H Q I)⟩
theorem callR_or {f : Value} {r1 r2 : List V → Hp → VK → Prop} (h1 : CallR X f r1) (h2 : CallR X f r2) : CallR X f (fun vs H Q => r1 vs H Q ∨ r2 vs H Q) :=
  fun pins s σ H xs us Q I r h => h.elim (h1 pins s σ H xs us Q I r) (h2 pins s σ H xs us Q I r)
theorem opR_or {f : Value → Value → Sem Value} {r1 r2 : R2} (h1 : OpR X f r1) (h2 : OpR X f r2) : OpR X f (fun x y H Q => r1 x y H Q ∨ r2 x y H Q) :=
  fun pins s σ H x y u v Q I rx ry h => h.elim (h1 pins s σ H x y u v Q I rx ry) (h2 pins s σ H x y u v Q I rx ry)

theorem cr_range1 : CallR X (.type "range") (fun vs H Q => ∃ j, vs = [V.int j] ∧ ∀ p, H p = none → Q (.ref p) (upd H p (.rng 0 j))) := by
  intro pins s σ H vs us Q I r h
  obtain ⟨j, rfl, q⟩ := h
  obtain ⟨u1, rfl, rj⟩ := vals1 r
  obtain ⟨u, rfl⟩ := rj
  refine call_range_1 ⟨.ref s.heap.objs.size, upd H s.heap.objs.size (.rng 0 j), I.laid (t' := s.toks + 2) (fun b o e => Heap.get?_push_of_some _ e) (Nat.le_refl _) ?_, rfl, q _ (I.hok.fresh (Nat.le_refl _))⟩
  exact ⟨s.toks, u, s.toks + 1, Heap.get?_push_size _ rfl⟩

theorem rangeSize1 {a b : Int} : Builtin.Range.rangeSize a b 1 = ((b - a).toNat : Int) := by
  unfold Builtin.Range.rangeSize
  rw [if_pos (by decide)]
  by_cases h : a < b
  · rw [if_pos h]; omega
  · rw [if_neg h]; omega


theorem paired_of {α β : Type} {F : α → β → Prop} : ∀ {xs : List α} {ys : List β}, xs.length = ys.length → (∀ (i : Nat) x y, xs[i]? = some x → ys[i]? = some y → F x y) → Paired F xs ys
  | [], [], _, _ => .nil
  | [], _ :: _, h, _ => by simp at h
  | _ :: _, [], h, _ => by simp at h
  | x :: xs, y :: ys, h, g => .cons (g 0 x y rfl rfl) (paired_of (by simpa using h) fun i a b ha hb => g (i + 1) a b (by simpa using ha) (by simpa using hb))

/-- list(range(..)) -/
theorem call_list_rng (hh : X.calm = true) : CallR X (.type "list") (fun vs H Q => ∃ (r : Addr) (a b : Int), vs = [V.ref r] ∧ H r = some (.rng a b) ∧ -(2 ^ 61) ≤ a ∧ a < 2 ^ 61 ∧ -(2 ^ 61) ≤ b ∧ b < 2 ^ 61 ∧ (b - a).toNat ≤ 100000 ∧
    ∀ p, H p = none → Q (.ref p) (upd H p (.lst ((List.range (b - a).toNat).map fun (i : Nat) => V.int (a + (i : Int)))))) := by
  intro pins s σ H vs us Q I rr h
  obtain ⟨r, a, b, rfl, hr, h1, h2, h3, h4, hn, q⟩ := h
  obtain ⟨u, rfl, ru⟩ := vals1 rr
  cases ru
  obtain ⟨t, u, v, ho⟩ := (show ObjOk X.prog X.w H s.heap r (.rng a b) from I.hok r _ hr)
  refine call_list_range (I.ok.hd hh) (a := a) (b := b) (c := 1) (t := t) (u := u) (v := v) (n := (b - a).toNat) ho ?_ rangeSize1 (by omega) fun h' tk acc' c' hk hS hI => ?_
  · unfold Builtin.Range.small
    rw [rangeSize1]
    simp only [Builtin.Range.rangeFitsLong, Bool.and_eq_true, Bool.or_eq_true, decide_eq_true_eq, if_pos (show (1 : Int) > 0 by decide)]
    refine ⟨⟨⟨⟨?_, ?_⟩, ?_⟩, ?_⟩, Or.inr ?_⟩ <;> omega
  · refine ⟨.ref s.heap.objs.size, _, I.laid (t' := tk) hk (Nat.le_refl _) (o := .lst ((List.range (b - a).toNat).map fun (i : Nat) => V.int (a + (i : Int)))) ⟨?_, acc'.toList, c', ?_, ?_⟩, rfl, q _ (I.hok.fresh (Nat.le_refl _))⟩
    · rw [List.length_map, List.length_range]
      exact Nat.le_trans hn (by decide)
    · refine paired_of ?_ fun j x y hx hy => ?_
      · rw [List.length_map, List.length_range, Array.length_toList, hI.1]
      · rw [List.getElem?_map] at hx
        obtain ⟨i, hi, rfl⟩ := Option.map_eq_some_iff.mp hx
        have e := List.getElem?_eq_some_iff.mp hi
        obtain ⟨e1, e2⟩ := e
        rw [List.getElem_range] at e2
        subst e2
        obtain ⟨tk, ey⟩ := hI.2 j y (by rw [← Array.getElem?_toList]; exact hy)
        exact ⟨tk, by rw [ey, Int.mul_one]⟩
    · rw [Array.toArray_toList]; exact hS

/-! ### [truths].count(truth) -/
def eqb (k : Bool) (v : Value) : Bool := match v with
  | .bool n => n == k
  | _ => false
theorem mt_lcountB : MtR X "list.count" (fun x xs H Q => ∃ (p : Addr) (ns : List Bool) (k : Bool), x = .ref p ∧ xs = [.bl k] ∧ SqL X.K H p (ns.map V.bl) ∧ Q (.int (ns.count k : Nat)) H) := by
  intro pins s σ H x xs v us Q I rx rxs h
  obtain ⟨p, ns, k, rfl, rfl, hs, q⟩ := h
  cases rx
  obtain ⟨u, rfl, ru⟩ := rxs.one
  cases (show u = Value.bool k from ru)
  obtain ⟨its, rv, ⟨⟨cls, dd, data, sl⟩, n, ho, hc, hdn, hd⟩, hlen⟩ := I.list hs
  simp only at hc hd
  subst hc hd
  have hb : ∀ y ∈ its, ∃ b, y = Value.bool b := by
    intro y hy
    obtain ⟨i, hi, e⟩ := List.mem_iff_getElem.mp hy
    have e1 : its[i]? = some y := by rw [List.getElem?_eq_getElem hi, e]
    have hl := rv.length
    obtain ⟨u, e2, e3⟩ := rv.get (i := i) (x := (ns.map V.bl)[i]'(by omega)) (List.getElem?_eq_getElem _)
    rw [e1] at e2
    cases e2
    rw [List.getElem_map] at e3
    exact ⟨_, e3⟩
  have hcount : ∀ {ns : List Bool} {its : List Value}, Vals (ns.map V.bl) its → its.countP (eqb k) = ns.count k := by
    intro ns
    induction ns with
    | nil => intro its r; cases r; rfl
    | cons b bs ih =>
      intro its r
      cases r with
      | cons r1 r2 =>
        cases (show _ = Value.bool b from r1)
        rw [List.countP_cons, List.count_cons, ih r2] <;> rfl
  refine call_meets PySem.F.slot_list_count ⟨_, ho, rfl⟩ PySem.F.entry_list_count (PySem.F.args_list_count_2 _ _)
    (SeqAt.list_countAt p its.toArray n dd sl (.bool k) (eqb k)) ⟨ho, fun y hy => ?_, ?_⟩
  · obtain ⟨b, rfl⟩ := hb y (by simpa using hy)
    exact SeqAt.EqAt.bool_bool b k
  · refine ⟨.int (ns.count k : Nat), H, I.tok _, ⟨s.toks, ?_⟩, q⟩
    show Value.int ((its.toArray.toList.countP (eqb k) : Nat) : Int) s.toks = Value.int ((ns.count k : Nat) : Int) s.toks
    rw [show its.toArray.toList = its by simp, hcount rv]

/-! ### sorted of tuples of ints -/
def encTI (b : Addr × List Int) : PyData := .tuple (b.2.map .int)
abbrev leTI (b c : Addr × List Int) : Bool := dataLe false encTI b c
theorem reads_ints {h : Heap} : ∀ {ns : List Int} {its : List Value}, Vals (ns.map V.int) its → ReadsAll h its (ns.map .int) []
  | [], _, r => by cases r; exact .nil
  | n :: ns, _, r => by
    cases r with
    | cons r1 r2 =>
      obtain ⟨t, rfl⟩ := r1
      exact ReadsAll.cons (as := []) (bs := []) (.int n t) (reads_ints r2)
theorem reads_ti {h : Heap} {t : Addr} {ns : List Int} {its : List Value} (ht : IsTup h t its.toArray) (r : Vals (ns.map V.int) its) : Reads h (.ref t) (.tuple (ns.map .int)) [] := by
  obtain ⟨o, ho, hc, n, hd⟩ := ht
  exact Reads.tuple ho hc hd (by simpa using reads_ints r)
theorem alike_enc (b c : Addr × List Int) : alike (encTI b) (encTI c) = true := by
  show alikeAll _ _ = true
  exact alike_ints _ _
theorem depth_enc (b : Addr × List Int) : (encTI b).depth ≤ 1 := by
  unfold encTI
  rw [PyData.depth, depth_ints]
  all_goals omega
theorem each_ti {s : Shared} {pins : List (Addr × Obj)} {σ : L2.St} {H : Hp} (I : L2.Inv X pins σ H s) : ∀ {bs : List (Addr × List Int)}, (∀ b ∈ bs, SqT X.K H b.1 (b.2.map V.int)) → EachIs (fun v b => ∃ as, Reads s.heap v (encTI b) as ∧ as = []) (bs.map fun b => Value.ref b.1) bs
  | [], _ => .nil
  | b :: bs, h => by
    refine .cons ?_ (each_ti I fun c hc => h c (List.mem_cons_of_mem _ hc))
    obtain ⟨its, r, ht, _⟩ := I.tuple (h b List.mem_cons_self)
    exact ⟨[], reads_ti ht r, rfl⟩
theorem each_id : ∀ {bs : List (Addr × List Int)}, EachIs (fun (v : Value) (b : Addr × List Int) => v = .ref b.1) (bs.map fun b => Value.ref b.1) bs
  | [] => .nil
  | _ :: _ => .cons rfl each_id
theorem each_out : ∀ {out : List Value} {bs : List (Addr × List Int)}, EachIs (fun (v : Value) (b : Addr × List Int) => v = .ref b.1) out bs → out = bs.map fun b => Value.ref b.1
  | _, _, .nil => rfl
  | _, _, .cons h t => by rw [h, each_out t]; rfl
theorem vals_refs : ∀ {bs : List (Addr × List Int)}, Vals (bs.map fun b => V.ref b.1) (bs.map fun b => Value.ref b.1)
  | [] => .nil
  | _ :: _ => .cons rfl vals_refs
theorem vals_refs_eq : ∀ {bs : List (Addr × List Int)} {its : List Value}, Vals (bs.map fun b => V.ref b.1) its → its = bs.map fun b => Value.ref b.1
  | [], _, r => by cases r; rfl
  | b :: bs, _, r => by
    cases r with
    | cons r1 r2 => rw [show _ = Value.ref b.1 from r1, vals_refs_eq r2]; rfl

/-- sorted(xs), xs a list of tuples of ints -/
theorem cr_sortedTI (hu : X.A.units + 64 < cLine) : CallR X (.builtin "sorted") (fun vs H Q => ∃ (a : Addr) (bs : List (Addr × List Int)), vs = [V.ref a] ∧ SqL X.K H a (bs.map fun b => V.ref b.1) ∧ (∀ b ∈ bs, b.2 ≠ [] ∧ SqT X.K H b.1 (b.2.map V.int)) ∧
    ∀ p, H p = none → Q (.ref p) (upd H p (.lst ((bs.mergeSort leTI).map fun b => V.ref b.1)))) := by
  intro pins s σ H vs us Q I r h
  obtain ⟨a, bs, rfl, hl, hb, q⟩ := h
  obtain ⟨u, rfl, ru⟩ := vals1 r
  cases ru
  obtain ⟨its, rv, pl, hz⟩ := I.list hl
  have e := vals_refs_eq rv
  subst e
  rw [List.length_map] at hz
  refine sorted_data (R := fun v b => v = .ref b.1) (enc := encTI) (bs := bs) pl.isList each_id ((each_ti I fun b hb' => (hb b hb').2).mono fun _ _ ⟨as, h, _⟩ => ⟨as, h⟩) (.of fun b c => alike_enc b c) ?_ hz (fun b _ => ?_) fun out ho eo => ?_
  · refine .inl fun d hd => ?_
    obtain ⟨b, hb', rfl⟩ := List.mem_map.mp hd
    have h0 := (hb b hb').1
    unfold encTI
    cases e : b.2 with
    | nil => exact absurd e h0
    | cons x r => exact ⟨_, _, rfl⟩
  · have := depth_enc b
    omega
  · have e := each_out eo
    subst e
    obtain ⟨c, hc⟩ := sortedAll_at s.heap (bs.map fun b => Value.ref b.1) ((bs.mergeSort (dataLe false encTI)).map fun b => Value.ref b.1).toArray
    refine ⟨.ref (s.heap.objs.size + 1), _, I.laid (t' := s.toks) (fun b o => sortedAll_old) (Nat.le_succ _) (o := .lst ((bs.mergeSort leTI).map fun b => V.ref b.1)) ⟨?_, _, c, vals_refs, hc⟩, rfl, q _ (I.hok.fresh (Nat.le_succ _))⟩
    rw [List.length_map, List.length_mergeSort]
    exact hz

theorem kt_split {H : Hp} : ∀ {kvs : List (List Key × V)} {xs : List (List Key × Addr × Value)} {ks : List (List Int)}, KT H kvs xs → kvs.map (·.1) = ks.map (·.map Sum.inl) →
    ∃ bs : List (Addr × List Int), bs.map (·.2) = ks ∧ bs.map (·.1) = xs.map (·.2.1) ∧ ∀ b ∈ bs, H b.1 = some (.tup (b.2.map V.int))
  | _, _, [], .nil, _ => ⟨[], rfl, rfl, fun b hb => by cases hb⟩
  | _, _, _ :: _, .nil, e => by simp at e
  | _, _, [], .cons _ _, e => by simp at e
  | (k, v) :: kvs, (k', a, u) :: xs, n :: ns, .cons h t, e => by
    simp only [List.map_cons, List.cons.injEq] at e
    obtain ⟨bs, e1, e2, e3⟩ := kt_split t e.2
    refine ⟨(a, n) :: bs, by rw [List.map_cons, e1], by rw [List.map_cons, List.map_cons, e2], fun b hb => ?_⟩
    rcases List.mem_cons.mp hb with rfl | hb
    · have h2 : H a = some (.tup (k.map kV)) := h.2.1
      rw [e.1] at h2
      rw [h2, List.map_map]
      rfl
    · exact e3 b hb

/-- sorted(d), d a dict whose keys are tuples of ints -/
theorem cr_sortedDT (hcalm : X.calm = true) (hu : X.A.units + 64 < cLine) : CallR X (.builtin "sorted") (fun vs H Q => ∃ (a : Addr) (kvs : List (List Key × V)) (ks : List (List Int)), vs = [V.ref a] ∧ Rd H a (.dT kvs) ∧ kvs.map (·.1) = ks.map (·.map Sum.inl) ∧ (∀ k ∈ ks, k ≠ []) ∧
    ∀ (bs : List (Addr × List Int)) p, bs.map (·.2) = ks → (∀ b ∈ bs, H b.1 = some (.tup (b.2.map V.int))) → H p = none → Q (.ref p) (upd H p (.lst ((bs.mergeSort leTI).map fun b => V.ref b.1)))) := by
  intro pins s σ H vs us Q I r h
  obtain ⟨a, kvs, ks, rfl, hd, hks, hne, q⟩ := h
  obtain ⟨u, rfl, rx⟩ := vals1 r
  cases rx
  obtain ⟨z, lo, xs, rel, o, es, ep, ho, hex, hdat, hes, hkk, hnd⟩ := dt_rd I.hok hd
  obtain ⟨bs, e1, e2, e3⟩ := kt_split rel hks
  have hlen : es.size = bs.length := by
    have e := congrArg List.length e2
    rw [List.length_map, List.length_map] at e
    rw [← Array.length_toList, hes, List.length_map, e]
  have hl2 : kvs.length = bs.length := by
    have e := congrArg List.length hks
    have e' := congrArg List.length e1
    simp only [List.length_map] at e e'
    omega
  refine Calls.call_function_entry PyProof.Rows.kind_sorted PyProof.Rows.plain_sorted PyProof.Rows.entry_sorted (PyProof.Rows.args_sorted1 _) ?_
  unfold Builtin.«sorted»
  refine wpAny_bind (m := checkCount "sorted" 1 1 _) (wpAny_pure ?_)
  refine wpAny_bind (PySem.W.kdu_collect (A := X.A.in1) (KdlSrc.rawDict (es := es) (ep := ep) lo) (I.ok.hd hcalm) ⟨o, ho, hex, hdat⟩ (by omega) fun h' tk acc hk hacc => ?_)
  have hacc2 : acc.toList = bs.map fun b => Value.ref b.1 := by
    refine List.ext_getElem? fun i => ?_
    rw [List.getElem?_map]
    by_cases hi : i < bs.length
    · obtain ⟨v, hv⟩ : ∃ v, acc[i]? = some v := ⟨acc[i]'(by rw [hacc.1]; omega), Array.getElem?_eq_getElem _⟩
      obtain ⟨hi2, e⟩ := hacc.2 i v hv
      rw [Array.getElem?_toList, hv, e]
      have e4 : es.toList[i]? = some es[i] := by rw [Array.getElem?_toList, Array.getElem?_eq_getElem hi2]
      rw [hes, List.getElem?_map] at e4
      obtain ⟨x, hx, ex⟩ := Option.map_eq_some_iff.mp e4
      have e5 : (bs.map (·.1))[i]? = some x.2.1 := by rw [e2, List.getElem?_map, hx]; rfl
      rw [List.getElem?_map] at e5
      obtain ⟨b, hb, eb⟩ := Option.map_eq_some_iff.mp e5
      rw [hb, ← ex]
      show some (Value.ref x.2.1) = some (Value.ref b.1)
      rw [eb]
    · rw [List.getElem?_eq_none (by rw [Array.length_toList, hacc.1]; omega), List.getElem?_eq_none (by omega)]
      rfl
  have I1 : Inv X pins σ H { s with heap := h', toks := tk } := I.kept hk
  rw [hacc2]
  refine wpAny_bind (wpAny_newList ?_ (by rw [List.length_map]; omega))
  have hoL : (h'.push (seqObj "list" (bs.map fun b => Value.ref b.1).toArray 0)).get? h'.objs.size = some (seqObj "list" (bs.map fun b => Value.ref b.1).toArray 0) := Heap.get?_push_size _ rfl
  show wpAny _ _ _ _ _ { s with heap := h'.push (seqObj "list" (bs.map fun b => Value.ref b.1).toArray 0), toks := tk }
  have I2 : Inv X pins σ H { s with heap := h'.push (seqObj "list" (bs.map fun b => Value.ref b.1).toArray 0), toks := tk } := I1.kept (t' := tk) fun b u z => Heap.get?_push_of_some _ z
  refine wpAny_bind (wpAny_holding (list_sort_data (R := fun v b => v = .ref b.1) (enc := encTI) (bs := bs) hoL each_id ((each_ti I2 fun b hb' => .inl (.inl (e3 b hb'))).mono fun _ _ ⟨as, h, e⟩ => ⟨as, h, by rw [e]; exact List.not_mem_nil⟩) (.of fun b c => alike_enc b c) ?_ (by omega) (fun b _ => ?_) fun out hout eo => ?_))
  · refine .inl fun d hd => ?_
    obtain ⟨b, hb', rfl⟩ := List.mem_map.mp hd
    have h0 : b.2 ≠ [] := hne _ (by rw [← e1]; exact List.mem_map.mpr ⟨b, hb', rfl⟩)
    unfold encTI
    cases e : b.2 with
    | nil => exact absurd e h0
    | cons x r => exact ⟨_, _, rfl⟩
  · have := depth_enc b
    show X.A.units + 1 + 1 + (encTI b).depth < cLine
    omega
  · have e := each_out eo
    subst e
    obtain ⟨e', he'⟩ := PyProof.Rows.sortedHeap_at (vs := bs.map fun b => Value.ref b.1) (out := ((bs.mergeSort (dataLe false encTI)).map fun b => Value.ref b.1).toArray) hoL
    refine wpAny_pure ⟨_, rfl, .ref h'.objs.size, upd H h'.objs.size (.lst ((bs.mergeSort leTI).map fun b => V.ref b.1)), I1.laid (t' := tk) (fun b u e => ?_) (Nat.le_refl _)
      (show ObjOk X.prog X.w _ _ _ (.lst ((bs.mergeSort leTI).map fun b => V.ref b.1)) from ⟨?_, _, e', vals_refs, he'⟩), rfl, q bs _ e1 e3 (I1.hok.fresh (Nat.le_refl _))⟩
    · have hb : b < h'.objs.size := Heap.lt_size e
      rw [PyProof.Rows.sortedHeap_old (Nat.ne_of_lt hb) (by rw [size_push']; exact Nat.lt_succ_of_lt hb)]
      exact Heap.get?_push_of_some _ e
    · rw [List.length_map, List.length_mergeSort]
      omega
end
end Pw

/-! ## PwBase -/
namespace Pw
open PySem L2 Evl

/-! ### heaps: all but some objects is as it was -/
def Xs (S : List Addr) (H H' : Hp) : Prop := ∀ a o, a ∉ S → H a = some o → H' a = some o
theorem Xs.refl {S : List Addr} {H : Hp} : Xs S H H := fun _ _ _ h => h
theorem Xs.trans {S : List Addr} {H H1 H2 : Hp} (x : Xs S H H1) (y : Xs S H1 H2) : Xs S H H2 := fun a o n h => y a o n (x a o n h)
theorem Xs.of {S : List Addr} {H H' : Hp} (e : Ex H H') : Xs S H H' := fun a o _ h => e a o h
theorem Xs.weak {S T : List Addr} {H H' : Hp} (x : Xs S H H') (h : ∀ a ∈ S, a ∈ T) : Xs T H H' := fun a o n e => x a o (fun m => n (h a m)) e
theorem Xs.put {S : List Addr} {H H' : Hp} {a : Addr} {o : HO} (x : Xs S H H') (h : a ∈ S) : Xs S H (upd H' a o) := fun b u n e => by
  rw [upd_ne (fun z => n (by rw [z]; exact h))]
  exact x b u n e
theorem Xs.new {S : List Addr} {H H' : Hp} {p : Addr} {o : HO} (x : Xs S H H') (h : H' p = none) : Xs S H (upd H' p o) := fun b u n e => by
  have e1 := x b u n e
  rw [upd_ne (ne_of_none e1 h)]
  exact e1
theorem Xs.ex {S : List Addr} {B H H' : Hp} (x : Xs S H H') (e : Ex B H) (n : ∀ a ∈ S, B a = none) : Ex B H' := fun a o h => x a o (fun m => by rw [n a m] at h; cases h) (e a o h)
theorem Xs.ex1 {b : Addr} {B H H' : Hp} (x : Xs [b] H H') (e : Ex B H) (n : B b = none) : Ex B H' := x.ex e fun a m => by
  rw [List.mem_singleton.mp m]
  exact n
/-- the heap without some objects -/
def mi (H : Hp) (S : List Addr) : Hp := fun a => if a ∈ S then none else H a
theorem mi_ex {H : Hp} {S : List Addr} : Ex (mi H S) H := fun a o h => by
  unfold mi at h
  by_cases m : a ∈ S
  · rw [if_pos m] at h; cases h
  · rw [if_neg m] at h; exact h
theorem mi_no {H : Hp} {S : List Addr} {a : Addr} (m : a ∈ S) : mi H S a = none := by unfold mi; rw [if_pos m]
theorem mi_at {H : Hp} {S : List Addr} {a : Addr} (m : a ∉ S) : mi H S a = H a := by unfold mi; rw [if_neg m]
theorem ex_mi {B H : Hp} {S : List Addr} (e : Ex B H) (n : ∀ a ∈ S, B a = none) : Ex B (mi H S) := fun a o h => by
  rw [mi_at (fun m => by rw [n a m] at h; cases h)]
  exact e a o h
theorem ex_mi1 {B H : Hp} {b : Addr} (e : Ex B H) (n : B b = none) : Ex B (mi H [b]) := ex_mi e fun a m => by
  rw [List.mem_singleton.mp m]
  exact n
theorem mi_no1 {H : Hp} {b : Addr} : mi H [b] b = none := mi_no (List.mem_singleton.mpr rfl)
theorem ex_upd {B H : Hp} {a : Addr} {o : HO} (e : Ex B H) (n : B a = none) : Ex B (upd H a o) := fun b u h => by
  rw [upd_ne (fun z => by rw [z, n] at h; cases h)]
  exact e b u h

/-! ### data: its tuples stand in the heap by themselves -/
mutual
inductive Dq (K : PySem.W.Frag) (H : Hp) : V → PyData → Prop
  | non : Dq K H .non .none
  | bl (b : Bool) : Dq K H (.bl b) (.bool b)
  | int (i : Int) : Dq K H (.int i) (.int i)
  | str (x : Str) : Dq K H (.str x) (.str x)
  | lst {a : Addr} {xs : List V} {ds : List PyData} : SqL K H a xs → DqAll K H xs ds → Dq K H (.ref a) (.list ds)
  | tup {a : Addr} {xs : List V} {ds : List PyData} : H a = some (.tup xs) → DqAll K H xs ds → Dq K H (.ref a) (.tuple ds)
inductive DqAll (K : PySem.W.Frag) (H : Hp) : List V → List PyData → Prop
  | nil : DqAll K H [] []
  | cons {v : V} {vs : List V} {d : PyData} {ds : List PyData} : Dq K H v d → DqAll K H vs ds → DqAll K H (v :: vs) (d :: ds)
end
mutual
theorem Dq.mono {K : PySem.W.Frag} {H H' : Hp} (e : Ex H H') : ∀ {v : V} {d : PyData}, Dq K H v d → Dq K H' v d
  | _, _, .non => .non
  | _, _, .bl b => .bl b
  | _, _, .int i => .int i
  | _, _, .str x => .str x
  | _, _, .lst h a => .lst (ex_l e h) (DqAll.mono e a)
  | _, _, .tup h a => .tup (e _ _ h) (DqAll.mono e a)
theorem DqAll.mono {K : PySem.W.Frag} {H H' : Hp} (e : Ex H H') : ∀ {vs : List V} {ds : List PyData}, DqAll K H vs ds → DqAll K H' vs ds
  | _, _, .nil => .nil
  | _, _, .cons h t => .cons (Dq.mono e h) (DqAll.mono e t)
end
mutual
theorem Dq.dp {K : PySem.W.Frag} {H : Hp} : ∀ {v : V} {d : PyData}, Dq K H v d → L2.Dp K H v d
  | _, _, .non => .non
  | _, _, .bl b => .bl b
  | _, _, .int i => .int i
  | _, _, .str x => .str x
  | _, _, .lst h a => .lst h (DqAll.dp a)
  | _, _, .tup h a => .tup (st_of h) (DqAll.dp a)
theorem DqAll.dp {K : PySem.W.Frag} {H : Hp} : ∀ {vs : List V} {ds : List PyData}, DqAll K H vs ds → L2.DpAll K H vs ds
  | _, _, .nil => .nil
  | _, _, .cons h t => .cons (Dq.dp h) (DqAll.dp t)
end
section
variable {K : PySem.W.Frag} {H : Hp}
theorem DqAll.length : ∀ {vs : List V} {ds : List PyData}, DqAll K H vs ds → vs.length = ds.length
  | _, _, .nil => rfl
  | _, _, .cons _ t => by rw [List.length_cons, List.length_cons, DqAll.length t]
theorem DqAll.get : ∀ {vs : List V} {ds : List PyData} {i : Nat} {v : V}, DqAll K H vs ds → vs[i]? = some v → ∃ d, ds[i]? = some d ∧ Dq K H v d
  | _, _, _, _, .nil, e => by simp at e
  | _, _, 0, v, .cons h _, e => by
    simp only [List.getElem?_cons_zero, Option.some.injEq] at e
    exact ⟨_, rfl, e ▸ h⟩
  | _, _, i + 1, v, .cons _ t, e => by
    obtain ⟨d, h1, h2⟩ := DqAll.get (i := i) t (by simpa using e)
    exact ⟨d, by simpa using h1, h2⟩
theorem DqAll.getd : ∀ {vs : List V} {ds : List PyData} {i : Nat} {d : PyData}, DqAll K H vs ds → ds[i]? = some d → ∃ v, vs[i]? = some v ∧ Dq K H v d
  | _, _, _, _, .nil, e => by simp at e
  | _, _, 0, d, .cons h _, e => by
    simp only [List.getElem?_cons_zero, Option.some.injEq] at e
    exact ⟨_, rfl, e ▸ h⟩
  | _, _, i + 1, d, .cons _ t, e => by
    obtain ⟨v, h1, h2⟩ := DqAll.getd (i := i) t (by simpa using e)
    exact ⟨v, by simpa using h1, h2⟩
theorem DqAll.snoc : ∀ {vs : List V} {ds : List PyData} {v : V} {d : PyData}, DqAll K H vs ds → Dq K H v d → DqAll K H (vs ++ [v]) (ds ++ [d])
  | _, _, _, _, .nil, h => .cons h .nil
  | _, _, _, _, .cons h t, h2 => .cons h (DqAll.snoc t h2)
theorem DqAll.ints : ∀ {ns : List Int}, DqAll K H (ns.map V.int) (ns.map PyData.int)
  | [] => .nil
  | n :: ns => .cons (.int n) DqAll.ints
theorem DqAll.ints_eq : ∀ {ns : List Int} {vs : List V}, DqAll K H vs (ns.map PyData.int) → vs = ns.map V.int
  | [], _, h => by cases h; rfl
  | n :: ns, _, h => by
    cases h with
    | cons h1 h2 =>
      cases h1
      rw [DqAll.ints_eq h2]
      rfl
end

/-! ### the law's box of draws -/
def BoxAt (H : Hp) (b : Addr) (c : Nat) : Prop := ∃ x y z : Int, H b = some (.lst [.int x, .int y, .int z]) ∧ 0 ≤ x ∧ 0 ≤ y ∧ y < 2 ^ 62 ∧ 0 ≤ z ∧ z ≤ (c : Int)
theorem BoxAt.mono {H : Hp} {b : Addr} {c d : Nat} (h : BoxAt H b c) (hc : c ≤ d) : BoxAt H b d := by
  obtain ⟨x, y, z, h1, h2, h3, h4, h5, h6⟩ := h
  exact ⟨x, y, z, h1, h2, h3, h4, h5, by omega⟩
theorem BoxAt.ex {H H' : Hp} {b : Addr} {c : Nat} (e : Ex H H') (h : BoxAt H b c) : BoxAt H' b c := by
  obtain ⟨x, y, z, h1, r⟩ := h
  exact ⟨x, y, z, e _ _ h1, r⟩
theorem BoxAt.upd {H : Hp} {b p : Addr} {c : Nat} {o : HO} (h : BoxAt H b c) (n : b ≠ p) : BoxAt (upd H p o) b c := by
  obtain ⟨x, y, z, h1, r⟩ := h
  exact ⟨x, y, z, by rw [upd_ne n]; exact h1, r⟩
theorem BoxAt.some {H : Hp} {b : Addr} {c : Nat} (h : BoxAt H b c) : ∃ o, H b = some o := by
  obtain ⟨x, y, z, h1, _⟩ := h
  exact ⟨_, h1⟩
theorem BoxAt.ne {H : Hp} {b p : Addr} {c : Nat} (h : BoxAt H b c) (n : H p = none) : b ≠ p := by
  obtain ⟨o, e⟩ := h.some
  exact ne_of_none e n
/-- what drawing does: the box alone is otherwise -/
structure Bx (b : Addr) (c : Nat) (H H' : Hp) : Prop where
  x : Xs [b] H H'
  at_ : BoxAt H' b c
theorem Bx.trans {b : Addr} {c d : Nat} {H H1 H2 : Hp} (h1 : Bx b c H H1) (h2 : Bx b d H1 H2) : Bx b d H H2 := ⟨h1.x.trans h2.x, h2.at_⟩
theorem Bx.refl {b : Addr} {c : Nat} {H : Hp} (h : BoxAt H b c) : Bx b c H H := ⟨Xs.refl, h⟩
theorem Bx.mono {b : Addr} {c d : Nat} {H H' : Hp} (h : Bx b c H H') (hc : c ≤ d) : Bx b d H H' := ⟨h.x, h.at_.mono hc⟩
theorem Bx.ext {b : Addr} {c : Nat} {H H1 H2 : Hp} (h : Bx b c H H1) (e : Ex H1 H2) : Bx b c H H2 := ⟨h.x.trans (Xs.of e), h.at_.ex e⟩
theorem Bx.pre {b : Addr} {c : Nat} {H H1 H2 : Hp} (e : Ex H H1) (h : Bx b c H1 H2) : Bx b c H H2 := ⟨(Xs.of e).trans h.x, h.at_⟩
theorem Bx.free {b p : Addr} {c : Nat} {H H' : Hp} (h : Bx b c H H') (n : H' p = none) : H p = none := by
  cases e : H p with
  | none => rfl
  | some o =>
    by_cases m : p = b
    · subst m
      obtain ⟨u, e2⟩ := h.at_.some
      rw [e2] at n
      cases n
    · rw [h.x p o (fun q => m (List.mem_singleton.mp q)) e] at n
      cases n
theorem Bx.at {b p : Addr} {c : Nat} {H H' : Hp} {o : HO} (h : Bx b c H H') (n : p ≠ b) (e : H p = some o) : H' p = some o := h.x p o (fun q => n (List.mem_singleton.mp q)) e

/-! ### a def of the text -/
structure Dfn (K : PySem.W.Frag) (mg : Str → Option Value) (x : Str) (st : Stmt) (ps : List Str) (f : Addr) (fd : FuncData) : Prop where
  F : Fun K x x st f fd
  g : mg x = some (.ref f)
  b : Binds K fd ps []
end Pw

/-! ## PwWeb -/
namespace Pw
open PySem L2 Evl PySem.W

/-! ### webs -/
abbrev Tie := Int × Int × Int
def tieD (t : Tie) : PyData := .tuple [.int t.1, .int t.2.1, .int t.2.2]
def webD (n : Int) (ts : List Tie) : PyData := .tuple [.int n, .tuple (ts.map tieD)]
def pairLt (s t : Tie) : Prop := s.1 < t.1 ∨ s.1 = t.1 ∧ s.2.1 < t.2.1
structure WebOk (n : Int) (ts : List Tie) : Prop where
  pos : 1 ≤ n
  tie : ∀ t ∈ ts, 0 ≤ t.1 ∧ t.1 < t.2.1 ∧ t.2.1 < n ∧ 1 ≤ t.2.2 ∧ t.2.2 ≤ t.2.2
  rise : ts.Pairwise pairLt
  len : ts.length ≤ 100

/-! ### the order of tuples of ints -/
theorem leTI_eq (b c : Addr × List Int) : leTI b c = decide (b.2 ≤ c.2) := by
  show (!dataLt (.tuple (c.2.map .int)) (.tuple (b.2.map .int))) = _
  rw [dataLt_tuple]
  show (!rowLt (c.2.map .int) (b.2.map .int)) = _
  rw [dataLt_ints]
  by_cases h : c.2 < b.2
  · have h' : ¬ b.2 ≤ c.2 := fun r => List.not_lt.mpr r h
    simp [h, h']
  · have h' : b.2 ≤ c.2 := List.not_lt.mp h
    simp [h, h']
theorem sortTI_perm (bs : List (Addr × List Int)) : (bs.mergeSort leTI).Perm bs := List.mergeSort_perm _ _
theorem sortTI_le (bs : List (Addr × List Int)) : (bs.mergeSort leTI).Pairwise (fun b c => b.2 ≤ c.2) := by
  refine (List.pairwise_mergeSort (le := leTI) (fun a b c h1 h2 => ?_) (fun a b => ?_) bs).imp fun {a b} h => ?_
  · rw [leTI_eq] at h1 h2 ⊢
    exact decide_eq_true (List.le_trans (of_decide_eq_true h1) (of_decide_eq_true h2))
  · rw [leTI_eq, leTI_eq, Bool.or_eq_true]
    rcases List.le_total a.2 b.2 with h | h
    · exact .inl (decide_eq_true h)
    · exact .inr (decide_eq_true h)
  · rw [leTI_eq] at h
    exact of_decide_eq_true h
theorem pair_le {a b c d : Int} (h : [a, b] ≤ [c, d]) : a < c ∨ a = c ∧ b ≤ d := by
  have h2 : ¬ [c, d] < [a, b] := List.not_lt.mpr h
  rw [List.cons_lt_cons_iff, List.cons_lt_cons_iff] at h2
  simp at h2
  omega

/-! ### ties in a dict -/
def kPair (a b : Int) : List Key := [.inl a, .inl b]
def TieKvs (n : Int) (kvs : List (List Key × V)) : Prop := (∀ p ∈ kvs, ∃ a b w : Int, p = (kPair a b, .int w) ∧ 0 ≤ a ∧ a < b ∧ b < n ∧ 1 ≤ w ∧ w ≤ w) ∧ (kvs.map (·.1)).Nodup
theorem TieKvs.nil {n : Int} : TieKvs n [] := ⟨(fun p h => by cases h), List.nodup_nil⟩
theorem putK_mem {κ : Type} [DecidableEq κ] {kvs : List (κ × V)} {k : κ} {v : V} {p : κ × V} (h : p ∈ putK kvs k v) : p ∈ kvs ∨ p = (k, v) := by
  unfold putK at h
  by_cases a : (kvs.any fun kv => decide (kv.1 = k)) = true
  · rw [if_pos a] at h
    obtain ⟨q, hq, rfl⟩ := List.mem_map.mp h
    by_cases e : q.1 = k
    · rw [if_pos e, e]; exact .inr rfl
    · rw [if_neg e]; exact .inl hq
  · rw [if_neg a] at h
    rcases List.mem_append.mp h with h | h
    · exact .inl h
    · exact .inr (List.mem_singleton.mp h)
theorem putK_keys {κ : Type} [DecidableEq κ] {kvs : List (κ × V)} {k : κ} {v : V} (h : (kvs.map (·.1)).Nodup) : ((putK kvs k v).map (·.1)).Nodup := by
  by_cases a : (kvs.any fun kv => decide (kv.1 = k)) = true
  · have e : (putK kvs k v).map (·.1) = kvs.map (·.1) := by
      unfold putK
      rw [if_pos a, List.map_map]
      refine List.map_congr_left fun q _ => ?_
      show (if q.1 = k then (q.1, v) else q).1 = q.1
      by_cases e : q.1 = k
      · rw [if_pos e]
      · rw [if_neg e]
    rw [e]
    exact h
  · rw [valV_any] at a
    exact nd_putK v h (by simpa using a)
theorem TieKvs.put {n a b w : Int} {kvs : List (List Key × V)} (h : TieKvs n kvs) (h1 : 0 ≤ a) (h2 : a < b) (h3 : b < n) (h4 : 1 ≤ w) (h5 : w ≤ w) : TieKvs n (putK kvs (kPair a b) (.int w)) :=
  ⟨fun p hp => (putK_mem hp).elim (h.1 p) fun e => ⟨a, b, w, e, h1, h2, h3, h4, h5⟩, putK_keys h.2⟩
theorem valV_mem {κ : Type} [DecidableEq κ] : ∀ {kvs : List (κ × V)} {p : κ × V}, (kvs.map (·.1)).Nodup → p ∈ kvs → valV kvs p.1 = some p.2
  | [], _, _, h => by cases h
  | q :: r, p, hn, h => by
    rw [List.map_cons, List.nodup_cons] at hn
    rcases List.mem_cons.mp h with rfl | h
    · exact valV_pos rfl
    · rw [valV_neg (fun e => hn.1 (by rw [e]; exact List.mem_map.mpr ⟨p, h, rfl⟩))]
      exact valV_mem hn.2 h
/-- the keys of such a dict as lists of ints -/
theorem TieKvs.keys : ∀ {n : Int} {kvs : List (List Key × V)}, (∀ p ∈ kvs, ∃ a b w : Int, p = (kPair a b, .int w) ∧ 0 ≤ a ∧ a < b ∧ b < n ∧ 1 ≤ w ∧ w ≤ w) →
    ∃ ks : List (List Int), kvs.map (·.1) = ks.map (·.map Sum.inl) ∧ ks.length = kvs.length ∧ ∀ k ∈ ks, ∃ a b, k = [a, b]
  | _, [], _ => ⟨[], rfl, rfl, fun k h => by cases h⟩
  | n, p :: r, h => by
    obtain ⟨ks, h1, h2, h3⟩ := TieKvs.keys (n := n) (kvs := r) fun q hq => h q (List.mem_cons_of_mem _ hq)
    obtain ⟨a, b, w, rfl, _⟩ := h p List.mem_cons_self
    refine ⟨[a, b] :: ks, ?_, by rw [List.length_cons, List.length_cons, h2], fun k hk => ?_⟩
    · rw [List.map_cons, List.map_cons, h1]
      rfl
    · rcases List.mem_cons.mp hk with rfl | hk
      · exact ⟨a, b, rfl⟩
      · exact h3 k hk
/-- the tie of a key -/
def tieOf (kvs : List (List Key × V)) (k : List Int) : Tie := (k.getD 0 0, k.getD 1 0, match valV kvs (k.map Sum.inl) with | some (.int w) => w | _ => 0)
theorem TieKvs.at {n : Int} {kvs : List (List Key × V)} {ks : List (List Int)} (h : TieKvs n kvs) (e : kvs.map (·.1) = ks.map (·.map Sum.inl)) {k : List Int} (hk : k ∈ ks) :
    ∃ a b w : Int, k = [a, b] ∧ valV kvs (k.map Sum.inl) = some (.int w) ∧ tieOf kvs k = (a, b, w) ∧ 0 ≤ a ∧ a < b ∧ b < n ∧ 1 ≤ w ∧ w ≤ w := by
  have h1 : k.map Sum.inl ∈ kvs.map (·.1) := by rw [e]; exact List.mem_map.mpr ⟨k, hk, rfl⟩
  obtain ⟨p, hp, e1⟩ := List.mem_map.mp h1
  obtain ⟨a, b, w, rfl, r⟩ := h.1 p hp
  have e2 : k = [a, b] := by
    have e3 : kPair a b = k.map Sum.inl := e1
    unfold kPair at e3
    match k, e3 with
    | [x, y], e3 =>
      simp only [List.map_cons, List.map_nil, List.cons.injEq, Sum.inl.injEq] at e3
      rw [e3.1, e3.2.1]
  have e4 : valV kvs (k.map Sum.inl) = some (.int w) := by
    rw [← e1]
    exact valV_mem h.2 hp
  refine ⟨a, b, w, e2, e4, ?_, r⟩
  unfold tieOf
  rw [e4, e2]
  rfl
theorem nodup_of_map {α β : Type} (f : α → β) : ∀ {l : List α}, (l.map f).Nodup → l.Nodup
  | [], _ => List.nodup_nil
  | a :: r, h => by
    rw [List.map_cons, List.nodup_cons] at h
    exact List.nodup_cons.mpr ⟨fun m => h.1 (List.mem_map.mpr ⟨a, m, rfl⟩), nodup_of_map f h.2⟩
/-- the sorted ties of a dict are a web's -/
theorem web_of {n : Int} {kvs : List (List Key × V)} {bs : List (Addr × List Int)} (hn : 1 ≤ n) (h : TieKvs n kvs) (e : kvs.map (·.1) = (bs.map (·.2)).map (·.map Sum.inl)) (hl : kvs.length ≤ 100) :
    WebOk n ((bs.mergeSort leTI).map fun b => tieOf kvs b.2) := by
  have hm : ∀ {b : Addr × List Int}, b ∈ bs.mergeSort leTI → b.2 ∈ bs.map (·.2) := fun {b} hb => List.mem_map.mpr ⟨b, (sortTI_perm bs).mem_iff.mp hb, rfl⟩
  have hnd : (bs.map (·.2)).Nodup := by
    have h2 := h.2
    rw [e] at h2
    exact nodup_of_map _ h2
  have hnd2 : ((bs.mergeSort leTI).map (·.2)).Nodup := ((sortTI_perm bs).map (·.2)).nodup_iff.mpr hnd
  refine ⟨hn, fun t ht => ?_, ?_, ?_⟩
  · obtain ⟨b, hb, rfl⟩ := List.mem_map.mp ht
    obtain ⟨a, b', w, e1, e2, e3, r⟩ := h.at e (hm hb)
    rw [e3]
    exact r
  · rw [List.pairwise_map]
    have p1 := sortTI_le bs
    have p2 : (bs.mergeSort leTI).Pairwise (fun b c => b.2 ≠ c.2) := by
      exact List.pairwise_map.mp hnd2
    refine ((p1.and p2).imp_of_mem fun {b c} hb hc ⟨q1, q2⟩ => ?_)
    obtain ⟨x, y, w, e1, _, e3, _⟩ := h.at e (hm hb)
    obtain ⟨x', y', w', e1', _, e3', _⟩ := h.at e (hm hc)
    rw [e3, e3']
    rw [e1, e1'] at q1 q2
    have q3 := pair_le q1
    unfold pairLt
    show x < x' ∨ x = x' ∧ y < y'
    have q4 : ¬ (x = x' ∧ y = y') := fun z => q2 (by rw [z.1, z.2])
    omega
  · have e5 := congrArg List.length e
    simp only [List.length_map] at e5
    rw [List.length_map, List.length_mergeSort]
    omega

/-! ### new data -/
theorem Dq.newTup {K : PySem.W.Frag} {H : Hp} {S : List Addr} {p : Addr} {vs : List V} {ds : List PyData} (hp : H p = none) (hS : p ∉ S) (h : DqAll K (mi H S) vs ds) : Dq K (mi (upd H p (.tup vs)) S) (.ref p) (.tuple ds) := by
  refine .tup (by rw [mi_at hS]; exact upd_same) (DqAll.mono (ex_mi ?_ fun a m => mi_no m) h)
  exact mi_ex.trans (Ex.new hp)
theorem Dq.newLst {K : PySem.W.Frag} {H : Hp} {S : List Addr} {p : Addr} {vs : List V} {ds : List PyData} (hp : H p = none) (hS : p ∉ S) (h : DqAll K (mi H S) vs ds) : Dq K (mi (upd H p (.lst vs)) S) (.ref p) (.list ds) := by
  refine .lst (sq_of (by rw [mi_at hS]; exact upd_same)) (DqAll.mono (ex_mi ?_ fun a m => mi_no m) h)
  exact mi_ex.trans (Ex.new hp)
theorem Bx.own {b d : Addr} {c : Nat} {H H' : Hp} {o : HO} (h : Bx b c H H') (n : H d = none) (nb : b ≠ d) : Bx b c H (upd H' d o) := by
  refine ⟨fun a u m e => ?_, h.at_.upd nb⟩
  rw [upd_ne (ne_of_none e n)]
  exact h.x a u m e
theorem Bx.new {b p : Addr} {c : Nat} {H H' : Hp} {o : HO} (h : Bx b c H H') (n : H' p = none) : Bx b c H (upd H' p o) := h.ext (Ex.new n)
theorem ex_mim {H H' : Hp} {S : List Addr} (e : Ex H H') : Ex (mi H S) (mi H' S) := ex_mi (mi_ex.trans e) fun a m => mi_no m
theorem ex_miw {H : Hp} {S T : List Addr} (h : ∀ a ∈ S, a ∈ T) : Ex (mi H T) (mi H S) := ex_mi mi_ex fun a m => mi_no (h a m)
end Pw

/-! ## PwEv -/
namespace Pw
open PySem L2 Evl

/-! ### worlds: what is told and stays (B), what is one's own and may change (S) -/
structure Wd (S : List Addr) (B H : Hp) : Prop where
  ex : Ex B H
  no : ∀ s ∈ S, B s = none
  at_ : ∀ s ∈ S, ∃ o, H s = some o
section
variable {S T : List Addr} {B B' H H' : Hp} {p l : Addr} {o : HO}
theorem Wd.ext (w : Wd S B H) (e : Ex H H') : Wd S B H' := ⟨w.ex.trans e, w.no, fun s m => by
  obtain ⟨o, h⟩ := w.at_ s m
  exact ⟨o, e _ _ h⟩⟩
theorem Wd.fresh (w : Wd S B H) (h : H p = none) : B p = none := fresh_back w.ex h
theorem Wd.nin (w : Wd S B H) (h : H p = none) : p ∉ S := fun m => by
  obtain ⟨o, e⟩ := w.at_ p m
  rw [h] at e
  cases e
theorem Wd.new (w : Wd S B H) (h : H p = none) : Wd S (upd B p o) (upd H p o) := by
  refine ⟨fun a u e => ?_, fun s m => ?_, fun s m => ?_⟩
  · by_cases q : a = p
    · subst q
      rw [upd_same] at e ⊢
      exact e
    · rw [upd_ne q] at e ⊢
      exact w.ex a u e
  · rw [upd_ne (fun q => w.nin h (by rw [← q]; exact m))]
    exact w.no s m
  · rw [upd_ne (fun q => w.nin h (by rw [← q]; exact m))]
    exact w.at_ s m
theorem Wd.newE (w : Wd S B H) (h : H p = none) : Ex B (upd B p o) := Ex.new (w.fresh h)
theorem Wd.own (w : Wd S B H) (h : H p = none) : Wd (p :: S) B (upd H p o) := by
  refine ⟨ex_upd w.ex (w.fresh h), fun s m => ?_, fun s m => ?_⟩
  · rcases List.mem_cons.mp m with rfl | m
    · exact w.fresh h
    · exact w.no s m
  · rcases List.mem_cons.mp m with rfl | m
    · exact ⟨_, upd_same⟩
    · rw [upd_ne (fun q => w.nin h (by rw [← q]; exact m))]
      exact w.at_ s m
theorem Wd.put (w : Wd S B H) (h : p ∈ S) : Wd S B (upd H p o) := by
  refine ⟨ex_upd w.ex (w.no p h), w.no, fun s m => ?_⟩
  by_cases q : s = p
  · rw [q]; exact ⟨_, upd_same⟩
  · rw [upd_ne q]; exact w.at_ s m
theorem Wd.weak (w : Wd S B H) (h : ∀ a ∈ T, a ∈ S) : Wd T B H := ⟨w.ex, fun s m => w.no s (h s m), fun s m => w.at_ s (h s m)⟩
theorem Wd.tail (w : Wd (l :: S) B H) : Wd S B H := w.weak fun a m => List.mem_cons_of_mem _ m
theorem Wd.back (w : Wd S B H) (e : Ex B' B) : Wd S B' H := ⟨e.trans w.ex, fun s m => fresh_back e (w.no s m), w.at_⟩
theorem Wd.give (w : Wd (l :: S) B H) (h : H l = some o) (n : l ∉ S) : Wd S (upd B l o) H := by
  refine ⟨fun a u e => ?_, fun s m => ?_, fun s m => w.at_ s (List.mem_cons_of_mem _ m)⟩
  · by_cases q : a = l
    · subst q
      rw [upd_same] at e
      rw [h]
      exact e
    · rw [upd_ne q] at e
      exact w.ex a u e
  · rw [upd_ne (fun q => n (by rw [← q]; exact m))]
    exact w.no s (List.mem_cons_of_mem _ m)
theorem Wd.giveE (w : Wd (l :: S) B H) : Ex B (upd B l o) := Ex.new (w.no l List.mem_cons_self)
end

theorem Wd.step {S : List Addr} {B H H' : Hp} (w : Wd S B H) (e : Ex H H') : Wd S (mi H' S) H' := ⟨mi_ex, fun s m => mi_no m, fun s m => (w.ext e).at_ s m⟩
theorem Wd.stepE {S : List Addr} {B H H' : Hp} (w : Wd S B H) (e : Ex H H') : Ex B (mi H' S) := ex_mi (w.ex.trans e) w.no

/-! ### what evaluates to what, made of what is told -/
def EvR (te : TE) (σ : L2.St) (B : Hp) (R : V → Hp → Prop) : Prop := ∀ S H, Wd S B H → ∀ Q : VK, (∀ v H', Ex H H' → R v (mi H' S) → Q v H') → te σ H Q
abbrev EvD (K : PySem.W.Frag) (te : TE) (σ : L2.St) (B : Hp) (d : PyData) : Prop := EvR te σ B fun v B' => Dq K B' v d
abbrev EvV (te : TE) (σ : L2.St) (B : Hp) (v : V) : Prop := EvR te σ B fun v' _ => v' = v
def EvB (tt : TT) (σ : L2.St) (B : Hp) (b : Bool) : Prop := ∀ S H, Wd S B H → ∀ Q : Bool → Hp → Prop, (∀ H', Ex H H' → Q b H') → tt σ H Q
def EvAR (ta : TA) (σ : L2.St) (B : Hp) (R : List V → Hp → Prop) : Prop := ∀ S H, Wd S B H → ∀ Q : List V → Hp → Prop, (∀ vs H', Ex H H' → R vs (mi H' S) → Q vs H') → ta σ H Q
abbrev EvAD (K : PySem.W.Frag) (ta : TA) (σ : L2.St) (B : Hp) (ds : List PyData) : Prop := EvAR ta σ B fun vs B' => DqAll K B' vs ds
/-- a relation that stays -/
def Stays {α : Type} (R : α → Hp → Prop) : Prop := ∀ v B B', Ex B B' → R v B → R v B'
theorem stays_dp {K : PySem.W.Frag} {d : PyData} : Stays fun v B => Dq K B v d := fun v B B' e h => Dq.mono e h
theorem stays_dps {K : PySem.W.Frag} {ds : List PyData} : Stays fun vs B => DqAll K B vs ds := fun v B B' e h => DqAll.mono e h
theorem stays_eq {u : V} : Stays fun v (_ : Hp) => v = u := fun _ _ _ _ h => h

section
variable {K : PySem.W.Frag} {σ : L2.St} {B B' H : Hp} {S : List Addr} {te ta tb : TE} {tt tu : TT} {tA : TA} {d d' : PyData} {ds : List PyData} {v : V} {R R' R1 R2' : V → Hp → Prop} {b c : Bool}
theorem EvR.mono (e : Ex B B') (h : EvR te σ B R) : EvR te σ B' R := fun S H w Q q => h S H (w.back e) Q q
theorem EvB.mono (e : Ex B B') (h : EvB tt σ B b) : EvB tt σ B' b := fun S H w Q q => h S H (w.back e) Q q
theorem EvAR.mono {R : List V → Hp → Prop} (e : Ex B B') (h : EvAR tA σ B R) : EvAR tA σ B' R := fun S H w Q q => h S H (w.back e) Q q
theorem EvR.imp (h : EvR te σ B R) (i : ∀ v B', R v B' → R' v B') : EvR te σ B R' := fun S H w Q q => h S H w Q fun v H' e r => q v H' e (i _ _ r)
/-- in sequence -/
theorem EvR.bind (h : EvR te σ B R) {Q : VK} (w : Wd S B H) (k : ∀ v B' H', Ex H H' → Ex B B' → Wd S B' H' → R v B' → Q v H') : te σ H Q :=
  h S H w Q fun v H' e r => k v _ H' e (w.stepE e) (w.step e) r
theorem EvB.bind (h : EvB tt σ B b) {Q : Bool → Hp → Prop} (w : Wd S B H) (k : ∀ B' H', Ex H H' → Ex B B' → Wd S B' H' → Q b H') : tt σ H Q :=
  h S H w Q fun H' e => k _ H' e (w.stepE e) (w.step e)
theorem EvAR.bind {R : List V → Hp → Prop} (h : EvAR tA σ B R) {Q : List V → Hp → Prop} (w : Wd S B H) (k : ∀ vs B' H', Ex H H' → Ex B B' → Wd S B' H' → R vs B' → Q vs H') : tA σ H Q :=
  h S H w Q fun v H' e r => k v _ H' e (w.stepE e) (w.step e) r
theorem evR_of (h : ∀ S H, Wd S B H → ∀ Q : VK, (∀ v B' H', Ex H H' → Ex B B' → Wd S B' H' → R v B' → Q v H') → te σ H Q) (st : Stays R) : EvR te σ B R := fun S H w Q q =>
  h S H w Q fun v B' H' e eB w' r => q v H' e (st _ _ _ (ex_mi w'.ex w'.no) r)
theorem evB_of (h : ∀ S H, Wd S B H → ∀ Q : Bool → Hp → Prop, (∀ B' H', Ex H H' → Ex B B' → Wd S B' H' → Q b H') → tt σ H Q) : EvB tt σ B b := fun S H w Q q => h S H w Q fun B' H' e _ _ => q H' e

/-! #### names, constants, numbers -/
theorem ev_var {i : Nat} (h : σ[i]? = some (some v)) (hd : Dq K B v d) : EvD K (tVar i) σ B d := evR_of (fun S H w Q q => ⟨v, h, q v B H (Ex.refl H) (Ex.refl B) w hd⟩) stays_dp
theorem ev_varV {i : Nat} (h : σ[i]? = some (some v)) : EvV (tVar i) σ B v := evR_of (fun S H w Q q => ⟨v, h, q v B H (Ex.refl H) (Ex.refl B) w rfl⟩) stays_eq
theorem ev_c (hd : Dq K B v d) : EvD K (tC v) σ B d := evR_of (fun S H w Q q => q v B H (Ex.refl H) (Ex.refl B) w hd) stays_dp
theorem ev_int {i : Int} : EvD K (tC (.int i)) σ B (.int i) := ev_c (.int i)
theorem ev_bl : EvD K (tC (.bl b)) σ B (.bool b) := ev_c (.bl b)
theorem ev_non : EvD K (tC .non) σ B .none := ev_c .non
theorem ev_str {x : Str} : EvD K (tC (.str x)) σ B (.str x) := ev_c (.str x)
/-- an operator by values that makes no object -/
theorem ev_op {r : R2} (ha : EvD K ta σ B d) (hb : EvD K tb σ B d') (hr : ∀ x y B' H' (Q : VK), Dq K B' x d → Dq K B' y d' → Ex B' H' → (∀ v, R v B' → Q v H') → r x y H' Q) (st : Stays R) : EvR (tOp r ta tb) σ B R :=
  evR_of (fun S H w Q q => ha.bind w fun x B1 H1 e1 eB1 w1 rx => (hb.mono eB1).bind w1 fun y B2 H2 e2 eB2 w2 ry =>
    hr x y B2 H2 Q (Dq.mono eB2 rx) ry w2.ex fun v rv => q v B2 H2 (e1.trans e2) (eB1.trans eB2) w2 rv) st
theorem ev_I0 {g : Int → Int → V} {i j : Int} (ha : EvD K ta σ B (.int i)) (hb : EvD K tb σ B (.int j)) (hd : ∀ B', Dq K B' (g i j) d) : EvD K (tOp (rI0 g) ta tb) σ B d :=
  ev_op ha hb (fun x y B' H' Q hx hy _ q => by cases hx; cases hy; exact ⟨i, j, rfl, rfl, q _ (hd _)⟩) stays_dp
theorem ev_I {C : Int → Int → Prop} {g : Int → Int → V} {i j : Int} (ha : EvD K ta σ B (.int i)) (hb : EvD K tb σ B (.int j)) (hc : C i j) (hd : ∀ B', Dq K B' (g i j) d) : EvD K (tOp (rI C g) ta tb) σ B d :=
  ev_op ha hb (fun x y B' H' Q hx hy _ q => by cases hx; cases hy; exact ⟨i, j, rfl, rfl, hc, q _ (hd _)⟩) stays_dp
theorem ev_add {i j : Int} (ha : EvD K ta σ B (.int i)) (hb : EvD K tb σ B (.int j)) : EvD K (tOp (rI0 fun i j => .int (i + j)) ta tb) σ B (.int (i + j)) := ev_I0 ha hb fun _ => .int _
theorem ev_sub {i j : Int} (ha : EvD K ta σ B (.int i)) (hb : EvD K tb σ B (.int j)) : EvD K (tOp (rI0 fun i j => .int (i - j)) ta tb) σ B (.int (i - j)) := ev_I0 ha hb fun _ => .int _
theorem ev_mul {i j : Int} (ha : EvD K ta σ B (.int i)) (hb : EvD K tb σ B (.int j)) (hc : CMul i j) : EvD K (tOp (rI CMul fun i j => .int (i * j)) ta tb) σ B (.int (i * j)) := ev_I ha hb hc fun _ => .int _
theorem ev_mod {i j : Int} (ha : EvD K ta σ B (.int i)) (hb : EvD K tb σ B (.int j)) (hc : 0 < j) : EvD K (tOp (rI (fun _ j => 0 < j) fun i j => .int (i % j)) ta tb) σ B (.int (i % j)) := ev_I ha hb hc fun _ => .int _
theorem ev_div {C : Int → Int → Prop} {i j : Int} (ha : EvD K ta σ B (.int i)) (hb : EvD K tb σ B (.int j)) (hc : C i j) : EvD K (tOp (rI C fun i j => .int (i / j)) ta tb) σ B (.int (i / j)) := ev_I ha hb hc fun _ => .int _
theorem ev_cmp {g : Int → Int → Bool} {i j : Int} (ha : EvD K ta σ B (.int i)) (hb : EvD K tb σ B (.int j)) : EvD K (tOp (rI0 fun i j => .bl (g i j)) ta tb) σ B (.bool (g i j)) := ev_I0 ha hb fun _ => .bl _
theorem ev_neg {i : Int} (ha : EvD K ta σ B (.int i)) : EvD K (tUn (rU fun i => .int (-i)) ta) σ B (.int (-i)) :=
  evR_of (fun S H w Q q => ha.bind w fun x B1 H1 e1 eB1 w1 rx => by cases rx; exact ⟨i, rfl, q _ B1 H1 e1 eB1 w1 (.int _)⟩) stays_dp
theorem ev_eqI {i j : Int} (ha : EvD K ta σ B (.int i)) (hb : EvD K tb σ B (.int j)) : EvD K (tOp rEq ta tb) σ B (.bool (decide (i = j))) :=
  ev_op ha hb (fun x y B' H' Q hx hy _ q => by
    cases hx; cases hy
    refine ⟨rfl, ?_⟩
    have e : decide (V.int i = V.int j) = decide (i = j) := by simp
    rw [e]
    exact q _ (.bl _)) stays_dp
theorem ev_neI {i j : Int} (ha : EvD K ta σ B (.int i)) (hb : EvD K tb σ B (.int j)) : EvD K (tOp rNe ta tb) σ B (.bool (!decide (i = j))) :=
  ev_op ha hb (fun x y B' H' Q hx hy _ q => by
    cases hx; cases hy
    refine ⟨rfl, ?_⟩
    have e : decide (V.int i = V.int j) = decide (i = j) := by simp
    rw [e]
    exact q _ (.bl _)) stays_dp
theorem ev_eqB {i j : Bool} (ha : EvD K ta σ B (.bool i)) (hb : EvD K tb σ B (.bool j)) : EvD K (tOp rEq ta tb) σ B (.bool (i == j)) :=
  ev_op ha hb (fun x y B' H' Q hx hy _ q => by
    cases hx; cases hy
    refine ⟨rfl, ?_⟩
    have e : decide (V.bl i = V.bl j) = (i == j) := by cases i <;> cases j <;> rfl
    rw [e]
    exact q _ (.bl _)) stays_dp
theorem ev_neB {i j : Bool} (ha : EvD K ta σ B (.bool i)) (hb : EvD K tb σ B (.bool j)) : EvD K (tOp rNe ta tb) σ B (.bool (i != j)) :=
  ev_op ha hb (fun x y B' H' Q hx hy _ q => by
    cases hx; cases hy
    refine ⟨rfl, ?_⟩
    have e : (!decide (V.bl i = V.bl j)) = (i != j) := by cases i <;> cases j <;> rfl
    rw [e]
    exact q _ (.bl _)) stays_dp
theorem ev_is (h : EvD K te σ B d) (e : d = d') : EvD K te σ B d' := by rw [← e]; exact h

/-! #### tests -/
theorem eb_test (h : EvD K te σ B (.bool b)) : EvB (tTest te) σ B b := evB_of fun S H w Q q => h.bind w fun x B1 H1 e1 eB1 w1 rx => by cases rx; exact ⟨b, rfl, q B1 H1 e1 eB1 w1⟩
theorem eb_B (h : EvD K te σ B (.bool b)) : EvB (tB te) σ B b := evB_of fun S H w Q q => h.bind w fun x B1 H1 e1 eB1 w1 rx => by cases rx; exact ⟨b, rfl, q B1 H1 e1 eB1 w1⟩
theorem eb_not (h : EvB tt σ B b) : EvB (tNot tt) σ B (!b) := evB_of fun S H w Q q => h.bind w fun B1 H1 e1 eB1 w1 => q B1 H1 e1 eB1 w1
theorem eb_and (h : EvB tt σ B b) (h2 : b = true → EvB tu σ B c) : EvB (tAnd tt tu) σ B (b && c) := evB_of fun S H w Q q => h.bind w fun B1 H1 e1 eB1 w1 => by
  cases b with
  | true => exact ((h2 rfl).mono eB1).bind w1 fun B2 H2 e2 eB2 w2 => q B2 H2 (e1.trans e2) (eB1.trans eB2) w2
  | false => exact q B1 H1 e1 eB1 w1
theorem eb_or (h : EvB tt σ B b) (h2 : b = false → EvB tu σ B c) : EvB (tOr tt tu) σ B (b || c) := evB_of fun S H w Q q => h.bind w fun B1 H1 e1 eB1 w1 => by
  cases b with
  | false => exact ((h2 rfl).mono eB1).bind w1 fun B2 H2 e2 eB2 w2 => q B2 H2 (e1.trans e2) (eB1.trans eB2) w2
  | true => exact q B1 H1 e1 eB1 w1
theorem eb_yes : EvB tYes σ B true := fun S H w Q q => q H (Ex.refl H)
theorem eb_is (h : EvB tt σ B b) (e : b = c) : EvB tt σ B c := by rw [← e]; exact h
theorem ev_and (h : EvD K ta σ B (.bool b)) (h2 : b = true → EvD K tb σ B (.bool c)) : EvD K (tAndV ta tb) σ B (.bool (b && c)) := evR_of (fun S H w Q q => h.bind w fun x B1 H1 e1 eB1 w1 rx => by
  cases rx
  refine ⟨b, rfl, ?_⟩
  cases b with
  | true => exact ((h2 rfl).mono eB1).bind w1 fun y B2 H2 e2 eB2 w2 ry => q y B2 H2 (e1.trans e2) (eB1.trans eB2) w2 ry
  | false => exact q _ B1 H1 e1 eB1 w1 (.bl _)) stays_dp
theorem ev_or (h : EvD K ta σ B (.bool b)) (h2 : b = false → EvD K tb σ B (.bool c)) : EvD K (tOrV ta tb) σ B (.bool (b || c)) := evR_of (fun S H w Q q => h.bind w fun x B1 H1 e1 eB1 w1 rx => by
  cases rx
  refine ⟨b, rfl, ?_⟩
  cases b with
  | false => exact ((h2 rfl).mono eB1).bind w1 fun y B2 H2 e2 eB2 w2 ry => q y B2 H2 (e1.trans e2) (eB1.trans eB2) w2 ry
  | true => exact q _ B1 H1 e1 eB1 w1 (.bl _)) stays_dp
theorem ev_not (h : EvD K ta σ B (.bool b)) : EvD K (tNotV ta) σ B (.bool (!b)) := evR_of (fun S H w Q q => h.bind w fun x B1 H1 e1 eB1 w1 rx => by cases rx; exact ⟨b, rfl, q _ B1 H1 e1 eB1 w1 (.bl _)⟩) stays_dp
theorem ev_if (h : EvB tt σ B b) (h1 : b = true → EvR ta σ B R) (h2 : b = false → EvR tb σ B R) (st : Stays R) : EvR (tIf tt ta tb) σ B R := evR_of (fun S H w Q q => h.bind w fun B1 H1 e1 eB1 w1 => by
  cases b with
  | true => exact ((h1 rfl).mono eB1).bind w1 fun y B2 H2 e2 eB2 w2 ry => q y B2 H2 (e1.trans e2) (eB1.trans eB2) w2 ry
  | false => exact ((h2 rfl).mono eB1).bind w1 fun y B2 H2 e2 eB2 w2 ry => q y B2 H2 (e1.trans e2) (eB1.trans eB2) w2 ry) st

/-! #### arguments, new lists and tuples -/
theorem ea_nil : EvAD K tNil σ B [] := fun S H w Q q => q [] H (Ex.refl H) .nil
theorem ea_cons (h : EvD K ta σ B d) (hr : EvAD K tA σ B ds) : EvAD K (tCons ta tA) σ B (d :: ds) := fun S H w Q q => h.bind w fun x B1 H1 e1 eB1 w1 rx => (hr.mono eB1).bind w1 fun vs B2 H2 e2 eB2 w2 rs =>
  q (x :: vs) H2 (e1.trans e2) (.cons (Dq.mono (eB2.trans (ex_mi w2.ex w2.no)) rx) (DqAll.mono (ex_mi w2.ex w2.no) rs))
theorem ev_tup (h : EvAD K tA σ B ds) (hl : ds.length ≤ 100000) : EvD K (tTup tA) σ B (.tuple ds) := evR_of (fun S H w Q q => h.bind w fun vs B1 H1 e1 eB1 w1 rs =>
  ⟨sz_of (by rw [DqAll.length rs]; exact hl), fun p hp => q (.ref p) _ _ (e1.trans (Ex.new hp)) (eB1.trans (w1.newE (o := .tup vs) hp)) (w1.new hp) (.tup upd_same (DqAll.mono (w1.newE hp) rs))⟩) stays_dp
theorem ev_lst (h : EvAD K tA σ B ds) (hl : ds.length ≤ 100000) : EvD K (tLst tA) σ B (.list ds) := evR_of (fun S H w Q q => h.bind w fun vs B1 H1 e1 eB1 w1 rs =>
  ⟨sz_of (by rw [DqAll.length rs]; exact hl), fun p hp => q (.ref p) _ _ (e1.trans (Ex.new hp)) (eB1.trans (w1.newE (o := .lst vs) hp)) (w1.new hp) (.lst (sq_of upd_same) (DqAll.mono (w1.newE hp) rs))⟩) stays_dp
/-- a sequence: a list or a tuple -/
def seqD (tup : Bool) (ds : List PyData) : PyData := if tup then .tuple ds else .list ds
theorem Dq.seq {t : Bool} (h : Dq K B v (seqD t ds)) : ∃ a vs, v = .ref a ∧ (SqL K B a vs ∨ SqT K B a vs) ∧ DqAll K B vs ds ∧ (t = true → SqT K B a vs) ∧ (t = false → SqL K B a vs) := by
  cases t with
  | true =>
    cases (show Dq K B v (.tuple ds) from h) with
    | tup h1 h2 => exact ⟨_, _, rfl, .inr (st_of h1), h2, (fun _ => st_of h1), (fun z => by cases z)⟩
  | false =>
    cases (show Dq K B v (.list ds) from h) with
    | lst h1 h2 => exact ⟨_, _, rfl, .inl h1, h2, (fun z => by cases z), (fun _ => h1)⟩
theorem atI_dp {vs : List V} {i : Int} (h : DqAll K B vs ds) (ha : atI ds i = some d) : ∃ v, atI vs i = some v ∧ Dq K B v d := by
  unfold atI at ha ⊢
  rw [DqAll.length h]
  obtain ⟨j, h1, h2⟩ := Option.bind_eq_some_iff.mp ha
  rw [h1]
  obtain ⟨v, h3, h4⟩ := DqAll.getd h h2
  exact ⟨v, h3, h4⟩
/-- an item -/
theorem ev_ix {t : Bool} {i : Int} (ha : EvD K ta σ B (seqD t ds)) (hb : EvD K tb σ B (.int i)) (hi : atI ds i = some d) : EvD K (tOp (rIx K) ta tb) σ B d :=
  ev_op ha hb (fun x y B' H' Q hx hy e q => by
    cases hy
    obtain ⟨a, vs, rfl, hs, hd, _⟩ := Dq.seq hx
    obtain ⟨v, h1, h2⟩ := atI_dp hd hi
    rcases hs with hs | hs
    · exact .inl ⟨a, vs, i, v, rfl, rfl, ex_l e hs, h1, q v h2⟩
    · exact .inr (.inl ⟨a, vs, i, v, rfl, rfl, ex_t e hs, h1, q v h2⟩)) stays_dp
theorem ev_ixL {i : Int} (ha : EvD K ta σ B (.list ds)) (hb : EvD K tb σ B (.int i)) (hi : atI ds i = some d) : EvD K (tOp (rIxL K) ta tb) σ B d :=
  ev_op ha hb (fun x y B' H' Q hx hy e q => by
    cases hy
    cases hx with
    | lst hs hd =>
      obtain ⟨v, h1, h2⟩ := atI_dp hd hi
      exact ⟨_, _, i, v, rfl, rfl, ex_l e hs, h1, q v h2⟩) stays_dp
theorem ev_ixT {i : Int} (ha : EvD K ta σ B (.tuple ds)) (hb : EvD K tb σ B (.int i)) (hi : atI ds i = some d) : EvD K (tOp (rIxT K) ta tb) σ B d :=
  ev_op ha hb (fun x y B' H' Q hx hy e q => by
    cases hy
    cases hx with
    | tup hs hd =>
      obtain ⟨v, h1, h2⟩ := atI_dp hd hi
      exact ⟨_, _, i, v, rfl, rfl, st_of (e _ _ hs), h1, q v h2⟩) stays_dp
/-- a call by values, one argument, that makes no object -/
theorem ev_cb {r : List V → Hp → VK → Prop} (h : EvAD K tA σ B ds) (hr : ∀ vs B' H' (Q : VK), DqAll K B' vs ds → Ex B' H' → (∀ v, R v B' → Q v H') → r vs H' Q) (st : Stays R) : EvR (tCB r tA) σ B R :=
  evR_of (fun S H w Q q => h.bind w fun vs B1 H1 e1 eB1 w1 rs => hr vs B1 H1 Q rs w1.ex fun v rv => q v B1 H1 e1 eB1 w1 rv) st
/-- a call that makes a new list (tuple) of the values that it is told -/
theorem ev_cbL {r : List V → Hp → VK → Prop} {ds' : List PyData} (h : EvAD K tA σ B ds) (hr : ∀ vs B' H' (Q : VK), DqAll K B' vs ds → Ex B' H' → (∀ p xs, H' p = none → DqAll K B' xs ds' → Q (.ref p) (upd H' p (.lst xs))) → r vs H' Q) : EvD K (tCB r tA) σ B (.list ds') :=
  evR_of (fun S H w Q q => h.bind w fun vs B1 H1 e1 eB1 w1 rs => hr vs B1 H1 Q rs w1.ex fun p xs hp hx => q (.ref p) _ _ (e1.trans (Ex.new hp)) (eB1.trans (w1.newE (o := .lst xs) hp)) (w1.new hp) (.lst (sq_of upd_same) (DqAll.mono (w1.newE hp) hx))) stays_dp
theorem ev_cbT {r : List V → Hp → VK → Prop} {ds' : List PyData} (h : EvAD K tA σ B ds) (hr : ∀ vs B' H' (Q : VK), DqAll K B' vs ds → Ex B' H' → (∀ p xs, H' p = none → DqAll K B' xs ds' → Q (.ref p) (upd H' p (.tup xs))) → (∀ v, Dq K B' v (.tuple ds') → Q v H') → r vs H' Q) : EvD K (tCB r tA) σ B (.tuple ds') :=
  evR_of (fun S H w Q q => h.bind w fun vs B1 H1 e1 eB1 w1 rs => hr vs B1 H1 Q rs w1.ex (fun p xs hp hx => q (.ref p) _ _ (e1.trans (Ex.new hp)) (eB1.trans (w1.newE (o := .tup xs) hp)) (w1.new hp) (.tup upd_same (DqAll.mono (w1.newE hp) hx))) fun v hv => q v B1 H1 e1 eB1 w1 hv) stays_dp
def rLenS (K : PySem.W.Frag) : List V → Hp → VK → Prop := fun xs H Q => ∃ p ys, xs = [.ref p] ∧ (SqL K H p ys ∨ SqT K H p ys) ∧ Q (.int ys.length) H
theorem ev_len {t : Bool} (h : EvD K ta σ B (seqD t ds)) : EvD K (tCB (rLenS K) (tCons ta tNil)) σ B (.int (ds.length : Nat)) := ev_cb (ea_cons h ea_nil) (fun vs B' H' Q hv e q => by
  cases hv with
  | cons h1 h2 =>
    cases h2
    obtain ⟨a, xs, rfl, hs, hd, _⟩ := Dq.seq h1
    refine ⟨a, xs, rfl, hs.elim (fun h => .inl (ex_l e h)) (fun h => .inr (ex_t e h)), ?_⟩
    rw [DqAll.length hd]
    exact q _ (.int _)) stays_dp
def rListS (K : PySem.W.Frag) : List V → Hp → VK → Prop := fun xs H Q => ∃ p ys, xs = [.ref p] ∧ (SqL K H p ys ∨ SqT K H p ys) ∧ ∀ l, H l = none → Q (.ref l) (upd H l (.lst ys))
theorem ev_list {t : Bool} (h : EvD K ta σ B (seqD t ds)) : EvD K (tCB (rListS K) (tCons ta tNil)) σ B (.list ds) := ev_cbL (ea_cons h ea_nil) fun vs B' H' Q hv e q => by
  cases hv with
  | cons h1 h2 =>
    cases h2
    obtain ⟨a, xs, rfl, hs, hd, _⟩ := Dq.seq h1
    exact ⟨a, xs, rfl, hs.elim (fun h => .inl (ex_l e h)) (fun h => .inr (ex_t e h)), fun l hl => q l xs hl hd⟩
def rTupleS (K : PySem.W.Frag) : List V → Hp → VK → Prop := fun xs H Q => ∃ p ys, xs = [.ref p] ∧ ((SqL K H p ys ∧ ∀ l, H l = none → Q (.ref l) (upd H l (.tup ys))) ∨ (SqT K H p ys ∧ Q (.ref p) H))
theorem ev_tuple {t : Bool} (h : EvD K ta σ B (seqD t ds)) : EvD K (tCB (rTupleS K) (tCons ta tNil)) σ B (.tuple ds) := ev_cbT (ea_cons h ea_nil) fun vs B' H' Q hv e q q2 => by
  cases hv with
  | cons h1 h2 =>
    cases h2
    cases t with
    | true =>
      cases (show Dq K B' _ (.tuple ds) from h1) with
      | tup hs hd => exact ⟨_, _, rfl, .inr ⟨st_of (e _ _ hs), q2 _ (.tup hs hd)⟩⟩
    | false =>
      cases (show Dq K B' _ (.list ds) from h1) with
      | lst hs hd => exact ⟨_, _, rfl, .inl ⟨ex_l e hs, fun l hl => q l _ hl hd⟩⟩
theorem ev_sum {ns : List Int} (h : EvD K ta σ B (.list (ns.map .int))) : EvD K (tCB (rSum K) (tCons ta tNil)) σ B (.int ns.sum) := ev_cb (ea_cons h ea_nil) (fun vs B' H' Q hv e q => by
  cases hv with
  | cons h1 h2 =>
    cases h2
    cases h1 with
    | lst hs hd =>
      have e2 := DqAll.ints_eq hd
      subst e2
      exact ⟨_, ns, rfl, ex_l e hs, q _ (.int _)⟩) stays_dp
theorem DqAll.bools_eq : ∀ {bs : List Bool} {vs : List V}, DqAll K B vs (bs.map PyData.bool) → vs = bs.map V.bl
  | [], _, h => by cases h; rfl
  | b :: bs, _, h => by
    cases h with
    | cons h1 h2 =>
      cases h1
      rw [DqAll.bools_eq h2]
      rfl
theorem ev_all {bs : List Bool} (h : EvD K ta σ B (.list (bs.map .bool))) : EvD K (tCB (rAll K) (tCons ta tNil)) σ B (.bool (bs.all id)) := ev_cb (ea_cons h ea_nil) (fun vs B' H' Q hv e q => by
  cases hv with
  | cons h1 h2 =>
    cases h2
    cases h1 with
    | lst hs hd =>
      have e2 := DqAll.bools_eq hd
      subst e2
      exact ⟨_, bs, rfl, ex_l e hs, q _ (.bl _)⟩) stays_dp
theorem ev_any {bs : List Bool} (h : EvD K ta σ B (.list (bs.map .bool))) : EvD K (tCB (rAny K) (tCons ta tNil)) σ B (.bool (bs.any id)) := ev_cb (ea_cons h ea_nil) (fun vs B' H' Q hv e q => by
  cases hv with
  | cons h1 h2 =>
    cases h2
    cases h1 with
    | lst hs hd =>
      have e2 := DqAll.bools_eq hd
      subst e2
      exact ⟨_, bs, rfl, ex_l e hs, q _ (.bl _)⟩) stays_dp
def rInt1 : List V → Hp → VK → Prop := fun xs H Q => (∃ i, xs = [.int i] ∧ Q (.int i) H) ∨ ∃ k, xs = [.bl k] ∧ Q (.int (if k = true then 1 else 0)) H
theorem ev_intB (h : EvD K ta σ B (.bool b)) : EvD K (tCB rInt1 (tCons ta tNil)) σ B (.int (if b = true then 1 else 0)) := ev_cb (ea_cons h ea_nil) (fun vs B' H' Q hv e q => by
  cases hv with
  | cons h1 h2 =>
    cases h2
    cases h1
    exact .inr ⟨b, rfl, q _ (.int _)⟩) stays_dp
def rAbs1 : List V → Hp → VK → Prop := fun xs H Q => ∃ i, xs = [.int i] ∧ Q (.int (if i < 0 then -i else i)) H
theorem ev_abs {i : Int} (h : EvD K ta σ B (.int i)) : EvD K (tCB rAbs1 (tCons ta tNil)) σ B (.int (if i < 0 then -i else i)) := ev_cb (ea_cons h ea_nil) (fun vs B' H' Q hv e q => by
  cases hv with
  | cons h1 h2 =>
    cases h2
    cases h1
    exact ⟨i, rfl, q _ (.int _)⟩) stays_dp
def rMin2 : List V → Hp → VK → Prop := fun xs H Q => ∃ i j, xs = [.int i, .int j] ∧ Q (.int (if j < i then j else i)) H
def rMax2 : List V → Hp → VK → Prop := fun xs H Q => ∃ i j, xs = [.int i, .int j] ∧ Q (.int (if j > i then j else i)) H
theorem ev_min2 {i j : Int} (ha : EvD K ta σ B (.int i)) (hb : EvD K tb σ B (.int j)) : EvD K (tCB rMin2 (tCons ta (tCons tb tNil))) σ B (.int (if j < i then j else i)) := ev_cb (ea_cons ha (ea_cons hb ea_nil)) (fun vs B' H' Q hv e q => by
  cases hv with
  | cons h1 t =>
  cases t with
  | cons h2 t =>
    cases t
    cases h1
    cases h2
    exact ⟨i, j, rfl, q _ (.int _)⟩) stays_dp
theorem ev_max2 {i j : Int} (ha : EvD K ta σ B (.int i)) (hb : EvD K tb σ B (.int j)) : EvD K (tCB rMax2 (tCons ta (tCons tb tNil))) σ B (.int (if j > i then j else i)) := ev_cb (ea_cons ha (ea_cons hb ea_nil)) (fun vs B' H' Q hv e q => by
  cases hv with
  | cons h1 t =>
  cases t with
  | cons h2 t =>
    cases t
    cases h1
    cases h2
    exact ⟨i, j, rfl, q _ (.int _)⟩) stays_dp
/-- x in xs, of ints -/
theorem inV_ints {i : Int} : ∀ {ns : List Int}, inV (.int i) (ns.map V.int) = decide (i ∈ ns)
  | [] => by simp [inV]
  | n :: ns => by
    have ih := inV_ints (i := i) (ns := ns)
    unfold inV at ih ⊢
    rw [List.map_cons, List.any_cons, ih]
    have e : eqV (.int n) (.int i) = decide (n = i) := by
      unfold eqV
      by_cases h : n = i <;> simp [h]
    rw [e]
    by_cases h : n = i
    · simp [h]
    · have h' : ¬ i = n := fun z => h z.symm
      simp [h, h']
theorem flat_ints {ns : List Int} : (ns.map V.int).all flatV = true := by
  rw [List.all_eq_true]
  intro v hv
  obtain ⟨n, _, rfl⟩ := List.mem_map.mp hv
  rfl
theorem ev_in {neg t : Bool} {i : Int} {ns : List Int} (ha : EvD K ta σ B (.int i)) (hb : EvD K tb σ B (seqD t (ns.map .int))) : EvD K (tOp (rIn K neg) ta tb) σ B (.bool (if neg then !decide (i ∈ ns) else decide (i ∈ ns))) :=
  ev_op ha hb (fun x y B' H' Q hx hy e q => by
    cases hx
    obtain ⟨a, vs, rfl, hs, hd, _⟩ := Dq.seq hy
    have e2 := DqAll.ints_eq hd
    subst e2
    refine ⟨a, _, rfl, hs.elim (fun h => .inl (ex_l e h)) (fun h => .inr (ex_t e h)), rfl, flat_ints, ?_⟩
    rw [inV_ints]
    exact q _ (.bl _)) stays_dp
/-- == and != of data -/
theorem ev_eqD (ha : EvD K ta σ B d) (hb : EvD K tb σ B d') (s1 : SeqAt.shaped d = true) (s2 : SeqAt.shaped d' = true) : EvD K (tOp (rEqD K) ta tb) σ B (.bool (PyData.eqv d d')) :=
  ev_op ha hb (fun x y B' H' Q hx hy e q => ⟨d, d', Dq.dp (Dq.mono e hx), Dq.dp (Dq.mono e hy), s1, s2, q _ (.bl _)⟩) stays_dp
theorem ev_neD (ha : EvD K ta σ B d) (hb : EvD K tb σ B d') (s1 : SeqAt.shaped d = true) (s2 : SeqAt.shaped d' = true) : EvD K (tOp (rNeD K) ta tb) σ B (.bool (!PyData.eqv d d')) :=
  ev_op ha hb (fun x y B' H' Q hx hy e q => ⟨d, d', Dq.dp (Dq.mono e hx), Dq.dp (Dq.mono e hy), s1, s2, q _ (.bl _)⟩) stays_dp
end
end Pw

/-! ## PwLoop -/
namespace Pw
open PySem L2 Evl

/-! ### walks: what a loop or a comprehension goes through -/
def Wk (wi : TI) (σ : L2.St) (B : Hp) (n : Nat) (xd : Nat → V → Hp → Prop) : Prop := ∀ S H, Wd S B H → ∀ R : It → Hp → Prop,
  (∀ J B1 H1, Ex H H1 → Ex B B1 → Wd S B1 H1 → (∀ i H', Ex B1 H' → i < n → J.go i H') → (∀ i H', Ex B1 H' → i = n → J.stop i H') →
    (∀ i S' B' H' x H'', Ex B1 B' → Wd S' B' H' → i < n → J.yld i H' x H'' → ∃ B'', Ex H' H'' ∧ Ex B' B'' ∧ Wd S' B'' H'' ∧ xd i x B'') → R J H1) → wi σ H R
section
variable {K : PySem.W.Frag} {σ : L2.St} {B H : Hp} {S : List Addr} {te ta tb tl : TE} {tt : TT} {tA : TA} {wi wi1 wi2 : TI} {g : TG} {tu : TS} {D : Ends} {n : Nat} {xd : Nat → V → Hp → Prop} {ds : List PyData}
/-- a walk over data -/
abbrev xdOf (K : PySem.W.Frag) (ds : List PyData) : Nat → V → Hp → Prop := fun i x B => ∃ d, ds[i]? = some d ∧ Dq K B x d
abbrev WkD (K : PySem.W.Frag) (wi : TI) (σ : L2.St) (B : Hp) (ds : List PyData) : Prop := Wk wi σ B ds.length (xdOf K ds)
theorem wk_list (h : EvD K tl σ B (.list ds)) : WkD K (iList K tl) σ B ds := fun S H w R k => h.bind w fun v B1 H1 e1 eB1 w1 r => by
  cases r with
  | @lst a xs _ hs hd =>
    have hl := DqAll.length hd
    refine ⟨a, rfl, ⟨xs, ex_l w1.ex hs⟩, k _ B1 H1 e1 eB1 w1 (fun i H' e hi => ⟨xs, xs[i]'(by omega), ex_l e hs, List.getElem?_eq_getElem _⟩) (fun i H' e hi => ⟨xs, ex_l e hs, by omega⟩) fun i S' B' H' x H'' eB w' hi y => ?_⟩
    obtain ⟨rfl, f⟩ := y
    have hx := f _ (ex_l (eB.trans w'.ex) hs)
    obtain ⟨d, h1, h2⟩ := DqAll.get hd hx
    exact ⟨B', Ex.refl _, Ex.refl _, w', d, h1, Dq.mono eB h2⟩
theorem wk_tup (h : EvD K tl σ B (.tuple ds)) : WkD K (iTup K tl) σ B ds := fun S H w R k => h.bind w fun v B1 H1 e1 eB1 w1 r => by
  cases r with
  | @tup a xs _ hs hd =>
    have hl := DqAll.length hd
    refine ⟨a, rfl, ⟨xs, st_of (w1.ex _ _ hs)⟩, k _ B1 H1 e1 eB1 w1 (fun i H' e hi => ⟨xs, xs[i]'(by omega), st_of (e _ _ hs), List.getElem?_eq_getElem _⟩) (fun i H' e hi => ⟨xs, st_of (e _ _ hs), by omega⟩) fun i S' B' H' x H'' eB w' hi y => ?_⟩
    obtain ⟨rfl, f⟩ := y
    have hx := f _ (st_of ((eB.trans w'.ex) _ _ hs))
    obtain ⟨d, h1, h2⟩ := DqAll.get hd hx
    exact ⟨B', Ex.refl _, Ex.refl _, w', d, h1, Dq.mono eB h2⟩
theorem wk_seq {t : Bool} (h : EvD K tl σ B (seqD t ds)) : WkD K (fun σ H R => iList K tl σ H R ∨ iTup K tl σ H R) σ B ds := by
  cases t with
  | true => exact fun S H w R k => .inr (wk_tup (show EvD K tl σ B (.tuple ds) from h) S H w R k)
  | false => exact fun S H w R k => .inl (wk_list (show EvD K tl σ B (.list ds) from h) S H w R k)
/-- the ints from lo on, n of them -/
def rngI (lo : Int) (n : Nat) : List Int := (List.range n).map fun (i : Nat) => lo + (i : Int)
theorem rngI_len {lo : Int} {n : Nat} : (rngI lo n).length = n := by unfold rngI; rw [List.length_map, List.length_range]
theorem rngI_get {lo : Int} {n i : Nat} (h : i < n) : (rngI lo n)[i]? = some (lo + (i : Int)) := by
  unfold rngI
  rw [List.getElem?_map, List.getElem?_range h]
  rfl
theorem rngI_mem {lo x : Int} {n : Nat} : x ∈ rngI lo n ↔ lo ≤ x ∧ x < lo + (n : Int) := by
  unfold rngI
  rw [List.mem_map]
  constructor
  · rintro ⟨i, hi, rfl⟩
    have := List.mem_range.mp hi
    omega
  · rintro ⟨h1, h2⟩
    exact ⟨(x - lo).toNat, List.mem_range.mpr (by omega), by omega⟩
theorem wk_itr {lo : Int} {m : Nat} {S : List Addr} {H : Hp} {R : It → Hp → Prop} (w : Wd S B H)
    (k : ∀ J B1 H1, Ex H H1 → Ex B B1 → Wd S B1 H1 → (∀ i H', Ex B1 H' → i < ((rngI lo m).map PyData.int).length → J.go i H') → (∀ i H', Ex B1 H' → i = ((rngI lo m).map PyData.int).length → J.stop i H') →
    (∀ i S' B' H' x H'', Ex B1 B' → Wd S' B' H' → i < ((rngI lo m).map PyData.int).length → J.yld i H' x H'' → ∃ B'', Ex H' H'' ∧ Ex B' B'' ∧ Wd S' B'' H'' ∧ xdOf K ((rngI lo m).map PyData.int) i x B'') → R J H1) : R (Itr lo m) H := by
  have hl : ((rngI lo m).map PyData.int).length = m := by rw [List.length_map, rngI_len]
  rw [hl] at k
  refine k _ B H (Ex.refl H) (Ex.refl B) w (fun i H' e hi => hi) (fun i H' e hi => Nat.le_of_eq hi.symm) fun i S' B' H' x H'' eB w' hi y => ?_
  obtain ⟨rfl, rfl⟩ := y
  exact ⟨B', Ex.refl _, Ex.refl _, w', .int (lo + (i : Int)), by rw [List.getElem?_map, rngI_get hi]; rfl, .int _⟩
theorem wk_rng1 {j : Int} (h : EvAD K tA σ B [.int j]) (hj : -100000 ≤ j ∧ j ≤ 100000) : WkD K (iRng1 tA) σ B ((rngI 0 j.toNat).map .int) := fun S H w R k => by
  refine h.bind w fun vs B1 H1 e1 eB1 w1 rs => ?_
  cases rs with
  | cons r1 r2 =>
    cases r1
    cases r2
    exact ⟨j, rfl, by omega, by omega, wk_itr w1 fun J B2 H2 e2 eB2 w2 => k J B2 H2 (e1.trans e2) (eB1.trans eB2) w2⟩
theorem wk_rng2 {i j : Int} (h : EvAD K tA σ B [.int i, .int j]) (hi : -100000 ≤ i ∧ i ≤ 100000) (hj : -100000 ≤ j ∧ j ≤ 100000) : WkD K (iRng2 tA) σ B ((rngI i (j - i).toNat).map .int) := fun S H w R k => by
  refine h.bind w fun vs B1 H1 e1 eB1 w1 rs => ?_
  cases rs with
  | cons r1 r2 =>
    cases r2 with
    | cons r2 r3 =>
    cases r1
    cases r2
    cases r3
    exact ⟨i, j, rfl, ⟨by omega, by omega, by omega, by omega⟩, wk_itr w1 fun J B2 H2 e2 eB2 w2 => k J B2 H2 (e1.trans e2) (eB1.trans eB2) w2⟩

/-! ### comprehensions -/
def TurnLc (K : PySem.W.Frag) (g : TG) (tt : TT) (te : TE) (σ : L2.St) (vs : List Nat) (B : Hp) (d : PyData) (fa : Bool) (ea : PyData) : Prop :=
  ∀ x S B' H', Ex B B' → Wd S B' H' → Dq K B' x d → ∀ (Qy : VK) (Qn : Hp → Prop), (fa = true → ∀ y B2 H2, Ex H' H2 → Ex B' B2 → Wd S B2 H2 → Dq K B2 y ea → Qy y H2) → (fa = false → ∀ B2 H2, Ex H' H2 → Ex B' B2 → Wd S B2 H2 → Qn H2) →
    g x (wipe σ vs) H' fun σ2 H2 => wipe σ2 vs = wipe σ vs ∧ tt σ2 H2 fun b H3 => if b = true then te σ2 H3 Qy else Qn H3
theorem ev_lc {α : Type} (l : List α) (enc : α → PyData) (f : α → Bool) (e : α → PyData) {vs : List Nat} (hk : WkD K wi σ B (l.map enc)) (hl : l.length ≤ 40000) (turn : ∀ a ∈ l, TurnLc K g tt te σ vs B (enc a) (f a) (e a)) :
    EvD K (tLc wi g tt te vs) σ B (.list ((l.filter f).map e)) := fun S H w Q q => by
  refine hk S H w _ fun J B1 H1 e1 eB1 w1 hgo hstop hyld Dl hD => ?_
  rw [List.length_map] at hgo hstop hyld
  refine ⟨fun i m H' => m = l.length - i ∧ i ≤ l.length ∧ Ex H1 H' ∧ ∃ B' acc, Ex B1 B' ∧ Wd (Dl :: S) B' H' ∧ H' Dl = some (.lst acc) ∧ DqAll K B' acc (((l.take i).filter f).map e), ⟨l.length, by omega, Nat.zero_le _, Ex.new hD, B1, [], Ex.refl _, w1.own hD, upd_same, .nil⟩, ?_⟩
  rintro i m H2 ⟨rfl, hi, eH, B2, acc, eB2, w2, hA, hd⟩
  by_cases hlt : i < l.length
  · obtain ⟨a, ha⟩ : ∃ a, l[i]? = some a := ⟨l[i], List.getElem?_eq_getElem hlt⟩
    have hmem : a ∈ l := List.mem_of_getElem? ha
    refine .inr ⟨hgo i H2 (eB2.trans w2.ex) hlt, fun H' => ∃ B', ∃ acc, Ex H1 H' ∧ Ex B1 B' ∧ Wd (Dl :: S) B' H' ∧ H' Dl = some (.lst acc) ∧ DqAll K B' acc (((l.take (i + 1)).filter f).map e), fun H' ⟨B', acc, h1, h2, h3, h4, h5⟩ => ⟨l.length - (i + 1), by omega, rfl, by omega, h1, B', acc, h2, h3, h4, h5⟩, fun x H3 hy => ?_⟩
    obtain ⟨B3, e3, eB3, w3, d, hd1, hd2⟩ := hyld i (Dl :: S) B2 H2 x H3 eB2 w2 hlt hy
    have ed : enc a = d := by
      rw [List.getElem?_map, ha] at hd1
      exact Option.some.inj hd1
    subst ed
    have htk : l.take (i + 1) = l.take i ++ [a] := by rw [List.take_add_one, ha]; rfl
    have hA3 := e3 _ _ hA
    refine turn a hmem x (Dl :: S) B3 H3 (eB1.trans (eB2.trans eB3)) w3 hd2 _ _ (fun hf y B4 H4 e4 eB4 w4 hy4 => ?_) (fun hf B4 H4 e4 eB4 w4 => ?_)
    · have hlen : acc.length ≤ l.length := by
        rw [DqAll.length hd, List.length_map]
        refine Nat.le_trans (List.length_filter_le _ _) ?_
        rw [List.length_take]
        exact Nat.min_le_right _ _
      refine ⟨acc, e4 _ _ hA3, sz_lt (by omega), B4, acc ++ [y], ?_, eB2.trans (eB3.trans eB4), w4.put List.mem_cons_self, upd_same, ?_⟩
      · exact (eH.trans (e3.trans e4)).mut hD
      · rw [htk, List.filter_append, List.filter_cons, if_pos hf, List.map_append]
        exact DqAll.snoc (DqAll.mono (eB3.trans eB4) hd) hy4
    · refine ⟨B4, acc, eH.trans (e3.trans e4), eB2.trans (eB3.trans eB4), w4, e4 _ _ hA3, ?_⟩
      rw [htk, List.filter_append, List.filter_cons, if_neg (by rw [hf]; decide)]
      show DqAll K B4 acc ((List.filter f (l.take i) ++ []).map e)
      rw [List.append_nil]
      exact DqAll.mono (eB3.trans eB4) hd
  · have ei : i = l.length := by omega
    subst ei
    refine .inl ⟨hstop _ H2 (eB2.trans w2.ex) rfl, q _ _ (e1.trans eH) ?_⟩
    rw [List.take_length] at hd
    have w4 := w2.give hA (w1.nin hD)
    exact Dq.mono (ex_mi w4.ex w4.no) (.lst (sq_of upd_same) (DqAll.mono w2.giveE hd))
theorem turn_name {j : Nat} {vs : List Nat} {d ea : PyData} {fa : Bool} (hv : ∀ x, wipe ((wipe σ vs).set j (some x)) vs = wipe σ vs)
    (ht : ∀ x B', Ex B B' → Dq K B' x d → EvB tt ((wipe σ vs).set j (some x)) B' fa) (he : ∀ x B', Ex B B' → Dq K B' x d → fa = true → EvD K te ((wipe σ vs).set j (some x)) B' ea) : TurnLc K (gName j) tt te σ vs B d fa ea :=
  fun x S B' H' eB w hx Qy Qn hy hn => ⟨hv x, (ht x B' eB hx).bind w fun B2 H2 e2 eB2 w2 => by
    cases fa with
    | true => exact ((he x B' eB hx rfl).mono eB2).bind w2 fun y B3 H3 e3 eB3 w3 r => hy rfl y B3 H3 (e2.trans e3) (eB2.trans eB3) w3 r
    | false => exact hn rfl B2 H2 e2 eB2 w2⟩
theorem turn_two {j1 j2 : Nat} {vs : List Nat} {d1 d2 ea : PyData} {fa : Bool} (hv : ∀ x1 x2, wipe (((wipe σ vs).set j1 (some x1)).set j2 (some x2)) vs = wipe σ vs)
    (ht : ∀ x1 x2 B', Ex B B' → Dq K B' x1 d1 → Dq K B' x2 d2 → EvB tt (((wipe σ vs).set j1 (some x1)).set j2 (some x2)) B' fa)
    (he : ∀ x1 x2 B', Ex B B' → Dq K B' x1 d1 → Dq K B' x2 d2 → fa = true → EvD K te (((wipe σ vs).set j1 (some x1)).set j2 (some x2)) B' ea) : TurnLc K (gTup K 2 (gCons (gName j1) (gCons (gName j2) gNil))) tt te σ vs B (.tuple [d1, d2]) fa ea :=
  fun x S B' H' eB w hx Qy Qn hy hn => by
    cases hx with
    | tup hs hd =>
    cases hd with
    | cons h1 t =>
    cases t with
    | cons h2 t =>
    cases t
    refine ⟨_, _, rfl, st_of (w.ex _ _ hs), rfl, _, _, rfl, _, _, rfl, rfl, hv _ _, (ht _ _ B' eB h1 h2).bind w fun B2 H2 e2 eB2 w2 => ?_⟩
    cases fa with
    | true => exact ((he _ _ B' eB h1 h2 rfl).mono eB2).bind w2 fun y B3 H3 e3 eB3 w3 r => hy rfl y B3 H3 (e2.trans e3) (eB2.trans eB3) w3 r
    | false => exact hn rfl B2 H2 e2 eB2 w2
theorem turn_three {j1 j2 j3 : Nat} {vs : List Nat} {d1 d2 d3 ea : PyData} {fa : Bool} (hv : ∀ x1 x2 x3, wipe ((((wipe σ vs).set j1 (some x1)).set j2 (some x2)).set j3 (some x3)) vs = wipe σ vs)
    (ht : ∀ x1 x2 x3 B', Ex B B' → Dq K B' x1 d1 → Dq K B' x2 d2 → Dq K B' x3 d3 → EvB tt ((((wipe σ vs).set j1 (some x1)).set j2 (some x2)).set j3 (some x3)) B' fa)
    (he : ∀ x1 x2 x3 B', Ex B B' → Dq K B' x1 d1 → Dq K B' x2 d2 → Dq K B' x3 d3 → fa = true → EvD K te ((((wipe σ vs).set j1 (some x1)).set j2 (some x2)).set j3 (some x3)) B' ea) : TurnLc K (gTup K 3 (gCons (gName j1) (gCons (gName j2) (gCons (gName j3) gNil)))) tt te σ vs B (.tuple [d1, d2, d3]) fa ea :=
  fun x S B' H' eB w hx Qy Qn hy hn => by
    cases hx with
    | tup hs hd =>
    cases hd with
    | cons h1 t =>
    cases t with
    | cons h2 t =>
    cases t with
    | cons h3 t =>
    cases t
    refine ⟨_, _, rfl, st_of (w.ex _ _ hs), rfl, _, _, rfl, _, _, rfl, _, _, rfl, rfl, hv _ _ _, (ht _ _ _ B' eB h1 h2 h3).bind w fun B2 H2 e2 eB2 w2 => ?_⟩
    cases fa with
    | true => exact ((he _ _ _ B' eB h1 h2 h3 rfl).mono eB2).bind w2 fun y B3 H3 e3 eB3 w3 r => hy rfl y B3 H3 (e2.trans e3) (eB2.trans eB3) w3 r
    | false => exact hn rfl B2 H2 e2 eB2 w2

/-! ### statements -/
theorem st_asg {i : Nat} {R : V → Hp → Prop} (w : Wd S B H) (h : EvR te σ B R) (k : ∀ v B' H', Ex H H' → Ex B B' → Wd S B' H' → R v B' → D.nx (σ.set i (some v)) H') : tAsg te (gName i) D σ H := h.bind w k
theorem st_ret {R : V → Hp → Prop} (w : Wd S B H) (h : EvR te σ B R) (k : ∀ v B' H', Ex H H' → Ex B B' → Wd S B' H' → R v B' → D.rt v H') : tRet te D σ H := h.bind w k
theorem st_if {tv : TS} {b : Bool} (w : Wd S B H) (h : EvB tt σ B b) (h1 : b = true → ∀ B' H', Ex H H' → Ex B B' → Wd S B' H' → tu D σ H') (h2 : b = false → ∀ B' H', Ex H H' → Ex B B' → Wd S B' H' → tv D σ H') : tIfS tt tu tv D σ H := h.bind w fun B' H' e eB w' => by
  cases b with
  | true => exact h1 rfl B' H' e eB w'
  | false => exact h2 rfl B' H' e eB w'
theorem st_for {α : Type} (l : List α) (enc : α → PyData) (w : Wd S B H) (hk : WkD K wi σ B (l.map enc)) (k : ∀ B1 H1, Ex H H1 → Ex B B1 → Wd S B1 H1 → ∃ Iv : Nat → L2.St → Hp → Prop, Iv 0 σ H1 ∧
    (∀ i a σ' H', l[i]? = some a → Iv i σ' H' → ∃ S' B', Ex B1 B' ∧ Wd S' B' H' ∧ ∀ x B'' H'', Ex H' H'' → Ex B' B'' → Wd S' B'' H'' → Dq K B'' x (enc a) → g x σ' H'' fun σ2 H2 => tu { D with nx := Iv (i + 1), ct := Iv (i + 1), bk := D.nx } σ2 H2) ∧
    (∀ σ' H', Iv l.length σ' H' → (∃ S' B', Ex B1 B' ∧ Wd S' B' H') ∧ D.nx σ' H')) : tFor wi g tu D σ H := by
  refine hk S H w _ fun J B1 H1 e1 eB1 w1 hgo hstop hyld => ?_
  rw [List.length_map] at hgo hstop hyld
  obtain ⟨Iv, h0, hs, hd⟩ := k B1 H1 e1 eB1 w1
  refine ⟨fun i m σ' H' => m = l.length - i ∧ i ≤ l.length ∧ Iv i σ' H', ⟨l.length, by omega, Nat.zero_le _, h0⟩, ?_⟩
  rintro i m σ2 H2 ⟨rfl, hi, p⟩
  by_cases hlt : i < l.length
  · obtain ⟨a, ha⟩ : ∃ a, l[i]? = some a := ⟨l[i], List.getElem?_eq_getElem hlt⟩
    obtain ⟨S', B', eB', w', t⟩ := hs i a σ2 H2 ha p
    refine .inr ⟨hgo i H2 (eB'.trans w'.ex) hlt, Iv (i + 1), fun σ' H' p' => ⟨l.length - (i + 1), by omega, rfl, by omega, p'⟩, fun x H3 hy => ?_⟩
    obtain ⟨B3, e3, eB3, w3, d, hd1, hd2⟩ := hyld i S' B' H2 x H3 eB' w' hlt hy
    have ed : enc a = d := by
      rw [List.getElem?_map, ha] at hd1
      exact Option.some.inj hd1
    subst ed
    exact t x B3 H3 e3 eB3 w3 hd2
  · have ei : i = l.length := by omega
    subst ei
    obtain ⟨⟨S', B', eB', w'⟩, h⟩ := hd σ2 H2 p
    exact .inl ⟨hstop _ H2 (eB'.trans w'.ex) rfl, h⟩

/-! ### calls of defs that change nothing -/
/-- what a def that changes nothing is worth: from data of these kinds a value of this one -/
def spD (K : PySem.W.Frag) (f : List PyData → PyData → Prop) : Sp := fun vs H Q _ => ∃ S B ds d, Wd S B H ∧ DqAll K B vs ds ∧ f ds d ∧ ∀ v B' H', Ex H H' → Ex B B' → Wd S B' H' → Dq K B' v d → Q v H'
theorem ev_call {f : List PyData → PyData → Prop} {d : PyData} {E : XK} (h : EvAD K tA σ B ds) (hf : f ds d) : EvD K (tCall (spD K f) [] E tA) σ B d :=
  evR_of (fun S H w Q q => h.bind w fun vs B1 H1 e1 eB1 w1 rs => ⟨S, B1, ds, d, w1, by rw [List.append_nil]; exact rs, hf, fun v B' H' e eB w' r => q v B' H' (e1.trans e) (eB1.trans eB) w' r⟩) stays_dp
end
end Pw

/-! ## PwDict -/
namespace Pw
open PySem L2 Evl
section
variable {K : PySem.W.Frag} {σ : L2.St} {B H : Hp} {S : List Addr} {te ta tb td tl : TE} {tA : TA} {R R' : V → Hp → Prop}
theorem ev_varR {i : Nat} {v : V} (h : σ[i]? = some (some v)) (r : R v B) (st : Stays R) : EvR (tVar i) σ B R := evR_of (fun S H w Q q => ⟨v, h, q v B H (Ex.refl H) (Ex.refl B) w r⟩) st
/-- a dict of which it matters which ints are its keys -/
def DSet (ks : List Int) (v : V) (B : Hp) : Prop := ∃ a kvs, v = .ref a ∧ B a = some (.dK kvs) ∧ ∀ k : Int, (valV kvs (.inl k)).isSome = decide (k ∈ ks)
theorem stays_dset {ks : List Int} : Stays (DSet ks) := fun v B B' e ⟨a, kvs, h1, h2, h3⟩ => ⟨a, kvs, h1, e _ _ h2, h3⟩
def rDictP (K : PySem.W.Frag) : List V → Hp → VK → Prop := fun xs H Q => ∃ (a : Addr) (ps : List Addr) (kvs : List (Key × V)), xs = [.ref a] ∧ SqL K H a (ps.map V.ref) ∧ Paired (fun p kv => SqT K H p [kV kv.1, kv.2]) ps kvs ∧
    ∀ p, H p = none → Q (.ref p) (upd H p (.dK (mergeK [] kvs)))
theorem pairs_ints {f : Int → PyData} : ∀ {ks : List Int} {xs : List V}, DqAll K B xs (ks.map fun k => .tuple [.int k, f k]) →
    ∃ (ps : List Addr) (kvs : List (Key × V)), xs = ps.map V.ref ∧ Paired (fun p kv => SqT K B p [kV kv.1, kv.2]) ps kvs ∧ kvs.map (·.1) = ks.map Sum.inl
  | [], _, h => by cases h; exact ⟨[], [], rfl, .nil, rfl⟩
  | k :: ks, _, h => by
    cases h with
    | cons h1 h2 =>
    obtain ⟨ps, kvs, rfl, h3, h4⟩ := pairs_ints h2
    cases h1 with
    | @tup a ys _ hs hd =>
    cases hd with
    | @cons y1 _ _ _ q1 t =>
    cases t with
    | @cons y2 _ _ _ q2 t =>
    cases t
    cases q1
    exact ⟨a :: ps, (.inl k, y2) :: kvs, rfl, .cons (st_of hs) h3, by rw [List.map_cons, List.map_cons, h4]⟩
theorem merge_some {κ : Type} [DecidableEq κ] (k : κ) : ∀ (kvs acc : List (κ × V)), (valV (kvs.foldl (fun acc kv => putK acc kv.1 kv.2) acc) k).isSome = ((valV acc k).isSome || decide (k ∈ kvs.map (·.1)))
  | [], acc => by simp
  | p :: r, acc => by
    rw [List.foldl_cons, merge_some k r, valV_put, List.map_cons]
    by_cases h : k = p.1
    · simp [h]
    · rw [if_neg h]
      have e : decide (k ∈ p.1 :: r.map (·.1)) = decide (k ∈ r.map (·.1)) := by
        by_cases q : k ∈ r.map (·.1)
        · rw [decide_eq_true q, decide_eq_true (List.mem_cons_of_mem _ q)]
        · rw [decide_eq_false q, decide_eq_false (fun z => (List.mem_cons.mp z).elim h q)]
      rw [e]
theorem paired_mono {H H' : Hp} {ps : List Addr} {kvs : List (Key × V)} (e : Ex H H') (h : Paired (fun p (kv : Key × V) => SqT K H p [kV kv.1, kv.2]) ps kvs) : Paired (fun p (kv : Key × V) => SqT K H' p [kV kv.1, kv.2]) ps kvs :=
  Paired.mapP h fun _ _ q => ex_t e q
theorem ev_dset {ks : List Int} {f : Int → PyData} (h : EvD K ta σ B (.list (ks.map fun k => .tuple [.int k, f k]))) : EvR (tCB (rDictP K) (tCons ta tNil)) σ B (DSet ks) :=
  evR_of (fun S H w Q q => (ea_cons h ea_nil).bind w fun vs B1 H1 e1 eB1 w1 rs => by
    cases rs with
    | cons r1 r2 =>
    cases r2
    cases r1 with
    | @lst a xs _ hs hd =>
    obtain ⟨ps, kvs, rfl, hp, hk⟩ := pairs_ints hd
    refine ⟨a, ps, kvs, rfl, ex_l w1.ex hs, paired_mono w1.ex hp, fun p hp => q (.ref p) _ _ (e1.trans (Ex.new hp)) (eB1.trans (w1.newE (o := .dK (mergeK [] kvs)) hp)) (w1.new hp) ⟨p, _, rfl, upd_same, fun k => ?_⟩⟩
    unfold mergeK
    rw [merge_some, hk]
    simp [valV_nil]) stays_dset
theorem ev_din {i : Int} {ks : List Int} (ha : EvD K ta σ B (.int i)) (hd : EvR td σ B (DSet ks)) : EvD K (tDIn ta td) σ B (.bool (decide (i ∈ ks))) :=
  evR_of (fun S H w Q q => ha.bind w fun x B1 H1 e1 eB1 w1 rx => (hd.mono eB1).bind w1 fun y B2 H2 e2 eB2 w2 ⟨a, kvs, ey, hy, hk⟩ => by
    cases rx
    subst ey
    refine ⟨a, _, rfl, .k (k := .inl i) (w2.ex _ _ hy), ?_⟩
    rw [hk]
    exact q _ B2 H2 (e1.trans e2) (eB1.trans eB2) w2 (.bl _)) stays_dp
theorem ev_dnin {i : Int} {ks : List Int} (ha : EvD K ta σ B (.int i)) (hd : EvR td σ B (DSet ks)) : EvD K (tDNotIn ta td) σ B (.bool (!decide (i ∈ ks))) :=
  evR_of (fun S H w Q q => ha.bind w fun x B1 H1 e1 eB1 w1 rx => (hd.mono eB1).bind w1 fun y B2 H2 e2 eB2 w2 ⟨a, kvs, ey, hy, hk⟩ => by
    cases rx
    subst ey
    refine ⟨a, _, rfl, .k (k := .inl i) (w2.ex _ _ hy), ?_⟩
    rw [hk]
    exact q _ B2 H2 (e1.trans e2) (eB1.trans eB2) w2 (.bl _)) stays_dp
theorem filter_yes {α : Type} (l : List α) : l.filter (fun _ => true) = l := by simp
end
end Pw

/-! ## PwIsi -/
namespace Pw
open PySem L2 Evl
/-- a datum's class -/
def tyN : PyData → String
  | .none => "NoneType"
  | .bool _ => "bool"
  | .int _ => "int"
  | .str _ => "str"
  | .list _ => "list"
  | .tuple _ => "tuple"
  | .dict _ => "dict"
section
variable {K : PySem.W.Frag} {σ : L2.St} {B H : Hp} {S : List Addr} {te ta tb td tl : TE} {tA : TA} {d : PyData} {b b1 b2 : Bool}
theorem tyx_of {v : V} (h : Dq K B v d) (e : Ex B H) : TyX K H v (.type (tyN d)) := by
  cases h with
  | non => exact .base .non
  | bl b => exact .base (.bl b)
  | int i => exact .base (.int i)
  | str x => exact .base (.str x)
  | lst hs _ =>
    rcases ex_l e hs with (h | ⟨o, h⟩) | ⟨o, _, _, h, hc, _⟩
    · exact .base (.lst h)
    · exact .base (.frz h)
    · exact .kList h hc
  | tup hs _ =>
    exact .base (.tup (e _ _ hs))
theorem ev_isi {T : String} (h : EvD K ta σ B d) (hb : kitB (tyN d) T = some b) : EvD K (tCB (rIsi K) (tCons ta (tCons (tC (.ty T)) tNil))) σ B (.bool b) :=
  evR_of (fun S H w Q q => h.bind w fun x B1 H1 e1 eB1 w1 rx => ⟨x, .ty T, _, _, b, rfl, .ty T, tyx_of rx w1.ex, kit_ty hb, q _ B1 H1 e1 eB1 w1 (.bl _)⟩) stays_dp
theorem ev_isi2 {T1 T2 : String} (h : EvD K ta σ B d) (h1 : kitB (tyN d) T1 = some b1) (h2 : kitB (tyN d) T2 = some b2) : EvD K (tCB (rIsiT K) (tCons ta (tCons (tTup (tCons (tC (.ty T1)) (tCons (tC (.ty T2)) tNil))) tNil))) σ B (.bool (b1 || b2)) :=
  evR_of (fun S H w Q q => h.bind w fun x B1 H1 e1 eB1 w1 rx => by
    refine ⟨(by show 2 ≤ sizeLine; decide), fun p hp => ⟨x, p, [.ty T1, .ty T2], _, [.type T1, .type T2], b1 || b2, rfl, upd_same, .cons (.ty T1) (.cons (.ty T2) .nil), tyx_of rx (w1.ex.trans (Ex.new hp)), ?_, q _ _ _ (e1.trans (Ex.new hp)) eB1 (w1.ext (Ex.new hp)) (.bl _)⟩⟩
    refine kitAny_cons (kit_ty h1) (fun z => ?_) (fun z => by rw [z]; rfl)
    rw [z, Bool.false_or]
    exact kitAny_cons (kit_ty h2) (fun z2 => by rw [z2]; exact kitAny_nil) fun z2 => z2) stays_dp
def rIsNs : R2 := fun x y H Q => y = .non ∧ Q (.bl (decide (x = .non))) H
theorem ev_isN (h : EvD K ta σ B d) (hb : (tyN d == "NoneType") = b) : EvD K (tOp rIsNs ta (tC .non)) σ B (.bool b) :=
  evR_of (fun S H w Q q => h.bind w fun x B1 H1 e1 eB1 w1 rx => by
    refine ⟨rfl, ?_⟩
    have e : decide (x = .non) = b := by
      subst hb
      cases rx <;> simp [tyN]
    rw [e]
    exact q _ B1 H1 e1 eB1 w1 (.bl _)) stays_dp
def rNotNs : R2 := fun x y H Q => y = .non ∧ Q (.bl (!decide (x = .non))) H
theorem ev_notN (h : EvD K ta σ B d) (hb : (tyN d == "NoneType") = b) : EvD K (tOp rNotNs ta (tC .non)) σ B (.bool (!b)) :=
  evR_of (fun S H w Q q => h.bind w fun x B1 H1 e1 eB1 w1 rx => by
    refine ⟨rfl, ?_⟩
    have e : decide (x = .non) = b := by
      subst hb
      cases rx <;> simp [tyN]
    rw [e]
    exact q _ B1 H1 e1 eB1 w1 (.bl _)) stays_dp
/-- things without parts -/
def atomD : PyData → Bool
  | .none => true
  | .bool _ => true
  | .int _ => true
  | .str _ => true
  | _ => false
/-- the same atom twice, by == -/
theorem ev_eqA (ha : EvD K ta σ B d) (hb : EvD K tb σ B d) (hd : atomD d = true) : EvD K (tOp rEq ta tb) σ B (.bool true) :=
  ev_op ha hb (fun x y B' H' Q hx hy _ q => by
    have e : x = y := by cases hx <;> cases hy <;> first | rfl | cases hd
    subst e
    refine ⟨?_, ?_⟩
    · cases hx <;> first | rfl | cases hd
    · rw [decide_eq_true rfl]
      exact q _ (.bl _)) stays_dp
theorem kit_list {x : PyData} (h : atomD x = true) : kitB (tyN x) "list" = some false ∧ kitB (tyN x) "tuple" = some false := by
  match x, h with
  | .none, _ => exact (by decide +kernel : kitB "NoneType" "list" = some false ∧ kitB "NoneType" "tuple" = some false)
  | .bool _, _ => exact (by decide +kernel : kitB "bool" "list" = some false ∧ kitB "bool" "tuple" = some false)
  | .int _, _ => exact (by decide +kernel : kitB "int" "list" = some false ∧ kitB "int" "tuple" = some false)
  | .str _, _ => exact (by decide +kernel : kitB "str" "list" = some false ∧ kitB "str" "tuple" = some false)
theorem kit_strbool {x : PyData} (h : atomD x = true) : kitB (tyN x) "str" = some (tyN x == "str") ∧ kitB (tyN x) "bool" = some (tyN x == "bool") := by
  match x, h with
  | .none, _ => exact (by decide +kernel : kitB "NoneType" "str" = some ("NoneType" == "str") ∧ kitB "NoneType" "bool" = some ("NoneType" == "bool"))
  | .bool _, _ => exact (by decide +kernel : kitB "bool" "str" = some ("bool" == "str") ∧ kitB "bool" "bool" = some ("bool" == "bool"))
  | .int _, _ => exact (by decide +kernel : kitB "int" "str" = some ("int" == "str") ∧ kitB "int" "bool" = some ("int" == "bool"))
  | .str _, _ => exact (by decide +kernel : kitB "str" "str" = some ("str" == "str") ∧ kitB "str" "bool" = some ("str" == "bool"))
theorem kit_int {x : PyData} (h : atomD x = true) (h1 : (tyN x == "NoneType" || tyN x == "str") = false) (h2 : (tyN x == "bool") = false) : kitB (tyN x) "int" = some true := by
  match x, h with
  | .none, _ => cases h1
  | .bool _, _ => cases h2
  | .int _, _ => exact (by decide +kernel : kitB "int" "int" = some true)
  | .str _, _ => cases h1
end
end Pw

/-! ## PwDraw -/
namespace Pw
open PySem L2 Evl
/-! ### expressions that draw from the box b -/
abbrev lid : Nat := 2 ^ 40
def EvX (S : List Addr) (b : Addr) (k : Nat) (te : TE) (σ : L2.St) (B : Hp) (R : V → Hp → Prop) : Prop :=
  ∀ H c, Wd S B H → b ∈ S → BoxAt H b c → c + k ≤ lid → ∀ Q : VK, (∀ v H', Xs [b] H H' → BoxAt H' b (c + k) → R v (mi H' S) → Q v H') → te σ H Q
section
variable {K : PySem.W.Frag} {σ : L2.St} {B H H' : Hp} {S : List Addr} {b : Addr} {k m c : Nat} {te ta tb tl : TE} {tt : TT} {tA : TA} {wi : TI} {g : TG} {R R' : V → Hp → Prop}
theorem Wd.xs (w : Wd S B H) (hb : b ∈ S) (h : BoxAt H b m) (x : Xs [b] H H') (h' : BoxAt H' b c) : Wd S (mi H' S) H' := ⟨mi_ex, fun s m => mi_no m, fun s m => by
  by_cases q : s = b
  · rw [q]; exact h'.some
  · obtain ⟨o, e⟩ := w.at_ s m
    exact ⟨o, x s o (fun z => q (List.mem_singleton.mp z)) e⟩⟩
theorem Wd.xsE (w : Wd S B H) (hb : b ∈ S) (x : Xs [b] H H') : Ex B (mi H' S) := ex_mi (x.ex1 w.ex (w.no b hb)) w.no
theorem EvX.bind (h : EvX S b k te σ B R) {Q : VK} (w : Wd S B H) (hb : b ∈ S) (hB : BoxAt H b c) (hl : c + k ≤ lid) (q : ∀ v B' H', Xs [b] H H' → Ex B B' → Wd S B' H' → BoxAt H' b (c + k) → R v B' → Q v H') : te σ H Q :=
  h H c w hb hB hl Q fun v H' x hB' r => q v _ H' x (w.xsE hb x) (w.xs hb hB x hB') hB' r
theorem EvX.mono {B' : Hp} (e : Ex B B') (h : EvX S b k te σ B R) : EvX S b k te σ B' R := fun H c w hb hB hl Q q => h H c (w.back e) hb hB hl Q q
theorem EvX.more (h : EvX S b k te σ B R) (hk : k ≤ m) : EvX S b m te σ B R := fun H c w hb hB hl Q q => h H c w hb hB (by omega) Q fun v H' x hB' r => q v H' x (hB'.mono (by omega)) r
theorem EvX.imp (h : EvX S b k te σ B R) (i : ∀ v B', R v B' → R' v B') : EvX S b k te σ B R' := fun H c w hb hB hl Q q => h H c w hb hB hl Q fun v H' x hB' r => q v H' x hB' (i _ _ r)
theorem evX_of (h : ∀ H c, Wd S B H → b ∈ S → BoxAt H b c → c + k ≤ lid → ∀ Q : VK, (∀ v B' H', Xs [b] H H' → Ex B B' → Wd S B' H' → BoxAt H' b (c + k) → R v B' → Q v H') → te σ H Q) (st : Stays R) : EvX S b k te σ B R :=
  fun H c w hb hB hl Q q => h H c w hb hB hl Q fun v B' H' x e w' hB' r => q v H' x hB' (st _ _ _ (ex_mi w'.ex w'.no) r)
/-- one that draws nothing -/
theorem EvR.x (h : EvR te σ B R) : EvX S b 0 te σ B R := fun H c w hb hB hl Q q => h S H w Q fun v H' e r => q v H' (Xs.of e) (hB.ex e) r
theorem stays_ex {α : Type} {p : α → Prop} {f : α → PyData} : Stays fun v B => ∃ a, p a ∧ Dq K B v (f a) := fun v B B' e ⟨a, h1, h2⟩ => ⟨a, h1, Dq.mono e h2⟩
/-- an int drawn -/
abbrev IntIn (K : PySem.W.Frag) (p : Int → Prop) (v : V) (B : Hp) : Prop := ∃ i : Int, p i ∧ Dq K B v (.int i)
theorem stays_int {p : Int → Prop} : Stays (IntIn K p) := stays_ex
theorem EvX.get {p : Int → Prop} (h : EvX S b k te σ B (IntIn K p)) {Q : VK} (w : Wd S B H) (hb : b ∈ S) (hB : BoxAt H b c) (hl : c + k ≤ lid) (q : ∀ i B' H', p i → Xs [b] H H' → Ex B B' → Wd S B' H' → BoxAt H' b (c + k) → Q (.int i) H') : te σ H Q :=
  h.bind w hb hB hl fun v B' H' x e w' hB' ⟨i, hi, r⟩ => by cases r; exact q i B' H' hi x e w' hB'

/-- [e for x in l if t], t or e drawing -/
theorem ex_lc {α β : Type} (l : List α) (enc : α → PyData) (encY : β → PyData) (Pr : Nat → List β → Prop) {vs : List Nat} (hk : WkD K wi σ B (l.map enc)) (hl : l.length ≤ 40000) (h0 : Pr 0 []) (hlen : ∀ i ys, Pr i ys → ys.length ≤ i)
    (turn : ∀ i a ys, l[i]? = some a → Pr i ys → ∀ x S' B' H' c', Ex B B' → Wd S' B' H' → b ∈ S' → BoxAt H' b c' → c' + k ≤ lid → Dq K B' x (enc a) → ∀ (Qy : VK) (Qn : Hp → Prop),
      (∀ y yv B2 H2, Xs [b] H' H2 → BoxAt H2 b (c' + k) → Wd S' B2 H2 → Ex B' B2 → Dq K B2 yv (encY y) → Pr (i + 1) (ys ++ [y]) → Qy yv H2) → (Pr (i + 1) ys → ∀ B2 H2, Xs [b] H' H2 → BoxAt H2 b (c' + k) → Wd S' B2 H2 → Ex B' B2 → Qn H2) →
      g x (wipe σ vs) H' fun σ2 H2 => wipe σ2 vs = wipe σ vs ∧ tt σ2 H2 fun b H3 => if b = true then te σ2 H3 Qy else Qn H3) :
    EvX S b (l.length * k) (tLc wi g tt te vs) σ B (fun v B' => ∃ ys, Pr l.length ys ∧ Dq K B' v (.list (ys.map encY))) := fun H c w hb hB hlid Q q => by
  refine hk S H w _ fun J B1 H1 e1 eB1 w1 hgo hstop hyld Dl hD => ?_
  rw [List.length_map] at hgo hstop hyld
  have nbD : Dl ≠ b := fun z => by
    obtain ⟨o, ho⟩ := (hB.ex e1).some
    rw [← z, hD] at ho
    cases ho
  refine ⟨fun i m H' => m = l.length - i ∧ i ≤ l.length ∧ Xs [b] H1 H' ∧ BoxAt H' b (c + i * k) ∧ ∃ B' acc ys, Ex B1 B' ∧ Wd (Dl :: S) B' H' ∧ H' Dl = some (.lst acc) ∧ Pr i ys ∧ DqAll K B' acc (ys.map encY),
    ⟨l.length, by omega, Nat.zero_le _, Xs.of (Ex.new hD), ((hB.ex e1).ex (Ex.new hD)).mono (by omega), B1, [], [], Ex.refl _, w1.own hD, upd_same, h0, .nil⟩, ?_⟩
  rintro i m H2 ⟨rfl, hi, xH, hB2, B2, acc, ys, eB2, w2, hA, hP, hd⟩
  by_cases hlt : i < l.length
  · obtain ⟨a, ha⟩ : ∃ a, l[i]? = some a := ⟨l[i], List.getElem?_eq_getElem hlt⟩
    have hmul : (i + 1) * k ≤ l.length * k := Nat.mul_le_mul_right k hlt
    have hsuc : (i + 1) * k = i * k + k := Nat.succ_mul i k
    refine .inr ⟨hgo i H2 (eB2.trans w2.ex) hlt, fun H' => Xs [b] H1 H' ∧ BoxAt H' b (c + (i + 1) * k) ∧ ∃ B' acc ys, Ex B1 B' ∧ Wd (Dl :: S) B' H' ∧ H' Dl = some (.lst acc) ∧ Pr (i + 1) ys ∧ DqAll K B' acc (ys.map encY), fun H' ⟨h1, h2, h3⟩ => ⟨l.length - (i + 1), by omega, rfl, by omega, h1, h2, h3⟩, fun x H3 hy => ?_⟩
    obtain ⟨B3, e3, eB3, w3, d, hd1, hd2⟩ := hyld i (Dl :: S) B2 H2 x H3 eB2 w2 hlt hy
    have ed : enc a = d := by
      rw [List.getElem?_map, ha] at hd1
      exact Option.some.inj hd1
    subst ed
    have hA3 := e3 _ _ hA
    have hlen2 : acc.length ≤ 40000 := by
      have := hlen _ _ hP
      rw [DqAll.length hd, List.length_map]
      omega
    refine turn i a ys ha hP x (Dl :: S) B3 H3 (c + i * k) (eB1.trans (eB2.trans eB3)) w3 (List.mem_cons_of_mem _ hb) (hB2.ex e3) (by omega) hd2 _ _ (fun y yv B4 H4 x4 hB4 w4 eB4 hy4 hP4 => ?_) (fun hP4 B4 H4 x4 hB4 w4 eB4 => ?_)
    · have hA4 := x4 _ _ (fun z => nbD (List.mem_singleton.mp z)) hA3
      refine ⟨acc, hA4, sz_lt (by omega), ?_, (hB4.mono (by omega)).upd nbD.symm, B4, acc ++ [yv], ys ++ [y], eB2.trans (eB3.trans eB4), w4.put List.mem_cons_self, upd_same, hP4, ?_⟩
      · intro p o hp ho
        rw [upd_ne (ne_of_none ho hD)]
        exact x4 p o hp (e3 _ _ (xH p o hp ho))
      · rw [List.map_append]
        exact DqAll.snoc (DqAll.mono (eB3.trans eB4) hd) hy4
    · exact ⟨xH.trans ((Xs.of e3).trans x4), hB4.mono (by omega), B4, acc, ys, eB2.trans (eB3.trans eB4), w4, x4 _ _ (fun z => nbD (List.mem_singleton.mp z)) hA3, hP4, DqAll.mono (eB3.trans eB4) hd⟩
  · have ei : i = l.length := by omega
    subst ei
    refine .inl ⟨hstop _ H2 (eB2.trans w2.ex) rfl, q _ _ ((Xs.of e1).trans xH) hB2 ?_⟩
    have w4 := w2.give hA (w1.nin hD)
    exact ⟨ys, hP, Dq.mono (ex_mi w4.ex w4.no) (.lst (sq_of upd_same) (DqAll.mono w2.giveE hd))⟩
end
/-! ### the promises of the law's draws -/
theorem b01 (c : Bool) : -(2 ^ 64) < (if c = true then (1 : Int) else 0) ∧ (if c = true then (1 : Int) else 0) < 2 ^ 64 := by cases c <;> decide
theorem b0 (c : Bool) : 0 ≤ (if c = true then (1 : Int) else 0) := by cases c <;> decide
def spCellAt (K : PySem.W.Frag) : Sp := fun vs H Q _ => ∃ (l : Addr) (ns : List Int) (k : Nat), vs = [.ref l, .int (k : Int)] ∧ SqL K H l (ns.map V.int) ∧ ∀ z, Q (.int z) H
def spBox (K : PySem.W.Frag) : Sp := fun vs H Q _ => ∃ (l : Addr) (ns : List Int) (k : Nat), vs = [.ref l, .int (k : Int)] ∧ SqL K H l (ns.map V.int) ∧ k < 100 ∧ ∀ b H', H b = none → Ex H H' → BoxAt H' b 0 → Q (.ref b) H'
def spTake : Sp := fun vs H Q _ => ∃ (b : Addr) (m : Int) (c : Nat), vs = [.ref b, .int m] ∧ BoxAt H b c ∧ c < 2 ^ 40 ∧ 1 ≤ m ∧ m < 2 ^ 100 ∧ ∀ v H', 0 ≤ v → v < m → Bx b (c + 1) H H' → Q (.int v) H'
/-- a number from the least one to few, or from seven to the most -/
def spMany : Sp := fun vs H Q _ => ∃ (b : Addr) (l f m : Int) (c : Nat), vs = [.ref b, .int l, .int f, .int m] ∧ BoxAt H b c ∧ c + 2 < 2 ^ 40 ∧ l ≤ f ∧ 7 ≤ m ∧ m < 2 ^ 60 ∧ f - l < 2 ^ 60 ∧ ∀ v H', (l ≤ v ∧ v ≤ f ∨ 7 ≤ v ∧ v ≤ m) → Bx b (c + 2) H H' → Q (.int v) H'
def spWeight : Sp := fun vs H Q _ => ∃ (b : Addr) (h : Int) (c : Nat), vs = [.ref b, .int h] ∧ BoxAt H b c ∧ c + 2 < 2 ^ 40 ∧ 0 ≤ h ∧ h < 4 ∧ ∀ v H', 1 ≤ v → v ≤ 1000000000 → Bx b (c + 2) H H' → Q (.int v) H'
def spWeb (K : PySem.W.Frag) : Sp := fun vs H Q _ => ∃ (S : List Addr) (b : Addr) (n : Int) (c : Nat), vs = [.ref b, .int n] ∧ b ∈ S ∧ (∀ s ∈ S, ∃ o, H s = some o) ∧ BoxAt H b c ∧ c + 1000 < 2 ^ 40 ∧ 1 ≤ n ∧ n ≤ 30 ∧
  ∀ v H' ts, WebOk n ts → Dq K (mi H' S) v (webD n ts) → Bx b (c + 1000) H H' → Q v H'
theorem Bx.def {S : List Addr} {b : Addr} {c : Nat} {H H' : Hp} (h : Bx b c H H') (hS : ∀ s ∈ S, ∃ o, H s = some o) : ∀ s ∈ S, ∃ o, H' s = some o := fun s m => by
  by_cases q : s = b
  · rw [q]; exact h.at_.some
  · obtain ⟨o, e⟩ := hS s m
    exact ⟨o, h.at q e⟩
theorem nin_def {S : List Addr} {H : Hp} {p : Addr} (hS : ∀ s ∈ S, ∃ o, H s = some o) (hp : H p = none) : p ∉ S := fun m => by
  obtain ⟨o, e⟩ := hS p m
  rw [hp] at e
  cases e
section
variable {K : PySem.W.Frag} {σ : L2.St} {B H H' : Hp} {S : List Addr} {b : Addr} {k m c : Nat} {te ta tb tl tm : TE} {E : XK}
theorem ex_take {i : Nat} {m : Int} (h : σ[i]? = some (some (.ref b))) (hm : EvD K tm σ B (.int m)) (h1 : 1 ≤ m) (h2 : m < 2 ^ 100) : EvX S b 1 (tCall spTake [] E (tCons (tVar i) (tCons tm tNil))) σ B (IntIn K fun v => 0 ≤ v ∧ v < m) :=
  evX_of (fun H c w hb hB hl Q q => ⟨_, h, hm.bind w fun x B1 H1 e1 eB1 w1 rx => by
    cases rx
    refine ⟨b, m, c, rfl, hB.ex e1, by unfold lid at hl; omega, h1, h2, fun v H2 g1 g2 hx => ?_⟩
    have x2 : Xs [b] H H2 := (Xs.of e1).trans hx.x
    exact q (.int v) (mi H2 S) H2 x2 (w.xsE hb x2) (w.xs hb hB x2 hx.at_) hx.at_ ⟨v, ⟨g1, g2⟩, .int v⟩⟩) stays_int
end
theorem Wd.ownX {S : List Addr} {B H H' : Hp} {b : Addr} (w : Wd S B H) (h : H b = none) (e : Ex H H') (d : ∃ o, H' b = some o) : Wd (b :: S) B H' := by
  refine ⟨w.ex.trans e, fun s m => ?_, fun s m => ?_⟩
  · rcases List.mem_cons.mp m with rfl | m
    · exact w.fresh h
    · exact w.no s m
  · rcases List.mem_cons.mp m with rfl | m
    · exact d
    · exact (w.ext e).at_ s m
theorem Wd.bx {S : List Addr} {B H H' : Hp} {b : Addr} {c : Nat} (w : Wd S B H) (hb : b ∈ S) (x : Bx b c H H') : Wd S (mi H' S) H' ∧ Ex B (mi H' S) :=
  ⟨⟨mi_ex, fun s m => mi_no m, x.def w.at_⟩, w.xsE hb x.x⟩
def spLaw (K : PySem.W.Frag) : Sp := fun vs H Q _ => ∃ (a : Addr) (ns : List Int), vs = [.ref a] ∧ SqL K H a (ns.map V.int) ∧ ns.length ≤ 63 ∧ ∀ H', Q (.bl true) H'
theorem two_args {K : PySem.W.Frag} {B : Hp} {vs : List V} {a b : PyData} (h : DqAll K B vs [a, b]) : ∃ v1 v2, vs = [v1, v2] ∧ Dq K B v1 a ∧ Dq K B v2 b := by
  cases h with
  | cons h1 t => cases t with
    | cons h2 t => cases t; exact ⟨_, _, rfl, h1, h2⟩
end Pw

/-! ## PwDT -/
namespace Pw
open PySem PySem.Spec PyProof.Rows L2 PySem.W Evl
/-! ### dict(a list of pairs whose keys are tuples of ints) -/
def mergeT (kvs more : List (List Key × V)) : List (List Key × V) := more.foldl (fun acc kv => putK acc kv.1 kv.2) kvs
theorem length_mergeT : ∀ (more kvs : List (List Key × V)), (mergeT kvs more).length ≤ kvs.length + more.length
  | [], kvs => by show kvs.length ≤ kvs.length + 0; omega
  | p :: r, kvs => by
    have h1 := length_mergeT r (putK kvs p.1 p.2)
    have h2 := length_putK kvs p.1 p.2
    show (mergeT (putK kvs p.1 p.2) r).length ≤ _
    rw [List.length_cons]; omega
theorem KT.merge {H : Hp} : ∀ {more : List (List Key × V)} {rs : List (List Key × Addr × Value)} {kvs : List (List Key × V)} {vs : List (List Key × Addr × Value)}, KT H more rs → KT H kvs vs → KT H (mergeT kvs more) (storedAllH vs rs) := by
  intro more rs kvs vs r
  induction r generalizing kvs vs with
  | nil => intro q; exact q
  | @cons p q ps qs h t ih =>
    intro r0
    have e : KT H (putK kvs p.1 p.2) (storedH vs q.1 q.2.1 q.2.2) := by
      have := r0.put p.1 h.2.1 h.2.2
      rw [← h.1]; exact this
    exact ih e
/-- a pair's tuple, its key's tuple, the key's ints, the value -/
abbrev PairT := Addr × Addr × List Int × V
def kvT (t : PairT) : List Key × V := (t.2.2.1.map Sum.inl, t.2.2.2)
theorem vals_refT {α : Type} {f : α → Addr} : ∀ {ts : List α} {its : List Value}, Vals (ts.map fun t => V.ref (f t)) its → its = ts.map fun t => Value.ref (f t)
  | [], _, r => by cases r; rfl
  | t :: ts, _, r => by
    cases r with
    | cons r1 r2 => rw [show _ = Value.ref (f t) from r1, vals_refT r2]; rfl
section
variable {X : Cx}
theorem pairsT {pins : List (Addr × Obj)} {σ : L2.St} {H : Hp} {s : Shared} (I : L2.Inv X pins σ H s) : ∀ {ts : List PairT}, (∀ t ∈ ts, SqT X.K H t.1 [.ref t.2.1, t.2.2.2] ∧ H t.2.1 = some (.tup (t.2.2.1.map V.int))) →
    ∃ prs : List (List Key × Addr × Value), KT H (ts.map kvT) prs ∧ prs.length = ts.length ∧ ∀ (j : Nat) (q : List Key × Addr × Value), prs[j]? = some q → ∃ t, ts[j]? = some t ∧ q.2.1 = t.2.1 ∧ s.heap.IsTuple t.1 #[.ref q.2.1, q.2.2]
  | [], _ => ⟨[], .nil, rfl, fun j q e => by simp at e⟩
  | t :: ts, h => by
    obtain ⟨prs, h1, h2, h3⟩ := pairsT I (ts := ts) fun u hu => h u (List.mem_cons_of_mem _ hu)
    obtain ⟨g1, g2⟩ := h t List.mem_cons_self
    obtain ⟨its, rv, ht, _⟩ := I.tuple g1
    cases rv with
    | cons r1 rv =>
    cases rv with
    | @cons _ u _ _ r2 rv =>
    cases rv
    cases (show _ = Value.ref t.2.1 from r1)
    refine ⟨(t.2.2.1.map Sum.inl, t.2.1, u) :: prs, .cons ⟨rfl, by rw [g2]; show _ = some (HO.tup ((t.2.2.1.map Sum.inl).map kV)); rw [List.map_map]; rfl, r2⟩ h1, by rw [List.length_cons, List.length_cons, h2], fun j q e => ?_⟩
    cases j with
    | zero =>
      rw [List.getElem?_cons_zero] at e
      cases e
      obtain ⟨o, a1, a2, a3⟩ := ht
      exact ⟨t, rfl, rfl, o, a1, a2, a3⟩
    | succ j => exact h3 j q (by simpa using e)
theorem cr_dictT (hcalm : X.calm = true) (hu : X.A.units + 64 < cLine) : CallR X (.type "dict") (fun xs H Q => ∃ (a : Addr) (ts : List PairT), xs = [.ref a] ∧ SqL X.K H a (ts.map fun t => V.ref t.1) ∧ (∀ t ∈ ts, SqT X.K H t.1 [.ref t.2.1, t.2.2.2] ∧ H t.2.1 = some (.tup (t.2.2.1.map V.int))) ∧
    ∀ p, H p = none → Q (.ref p) (upd H p (.dT (mergeT [] (ts.map kvT))))) := by
  intro pins s σ H xs us Q I r q
  obtain ⟨a, ts, rfl, hq, hp, q⟩ := q
  obtain ⟨u, rfl, rx⟩ := vals1 r
  cases rx
  obtain ⟨its, rv, pl, hz⟩ := I.list hq
  rw [List.length_map] at hz
  have ei := vals_refT rv
  subst ei
  obtain ⟨prs, hkt, hlen, hpr⟩ := pairsT I hp
  obtain ⟨o, n, ho, hc, hd, hdat⟩ := pl
  have hplen : (prs.map fun q => (Value.ref q.2.1, q.2.2)).length = prs.length := List.length_map _
  have hkeys : ∀ x ∈ prs, H x.2.1 = some (.tup (x.1.map kV)) := by
    have all : ∀ {l : List (List Key × V)} {m : List (List Key × Addr × Value)}, KT H l m → ∀ x ∈ m, H x.2.1 = some (.tup (x.1.map kV)) := by
      intro l m q
      induction q with
      | nil => intro x hx; exact nomatch hx
      | @cons p q ps qs hq t ih =>
        intro x hx
        rcases List.mem_cons.mp hx with e | hx
        · subst e
          rw [← hq.1]
          exact hq.2.1
        · exact ih x hx
    exact all hkt
  refine call_dict_pairsH (knd := tupleKind (mixKind X.prog X.w)) (ps := prs) (PairArg.list a (ts.map fun t => Value.ref t.1).toArray (fun j => ((ts[j]?).map (·.1)).getD 0) (prs.map fun q => (Value.ref q.2.1, q.2.2))) (I.ok.hd hcalm) (show X.A.in1.in1.units < cLine from by show X.A.units + 1 + 1 < cLine; omega) ⟨⟨o, n, ho, hc, hd, hdat⟩, ?_, ?_⟩ ⟨hplen.symm, ?_⟩ ?_ (by rw [hplen, hlen]; exact hz) fun h' tk hd' hk => ?_
  · rw [List.size_toArray, List.length_map, hplen, hlen]
  · intro j k v e
    rw [List.getElem?_map] at e
    obtain ⟨q', hq', eq⟩ := Option.map_eq_some_iff.mp e
    cases eq
    obtain ⟨t, ht, e1, e2⟩ := hpr j q' hq'
    refine ⟨?_, ?_⟩
    · rw [List.getElem?_toArray, List.getElem?_map, ht]
      show some (Value.ref t.1) = some (Value.ref (((ts[j]?).map (·.1)).getD 0))
      rw [ht]
      rfl
    · show PairAt s.heap (((ts[j]?).map (·.1)).getD 0) _ _
      rw [ht]
      exact .inl e2
  · intro i key v e
    rw [PairRel, List.getElem?_map] at e
    obtain ⟨q', hq', eq⟩ := Option.map_eq_some_iff.mp e
    cases eq
    exact ⟨q'.1, q'.2.1, hq', rfl⟩
  · intro h' hk x hx
    obtain ⟨o2, items, n2, g1, g2, g3, g4⟩ := key_of I.hok (hkeys x hx)
    exact ⟨o2, items, n2, hk _ _ (Nat.ne_of_lt (Heap.lt_size g1)) (fun z => nomatch z) g1, g2, g3, g4⟩
  · have hm : (s.heap.objs.size == sysModules) = false := beq_eq_false_iff_ne.mpr (Nat.ne_of_gt I.big)
    have hml : (mergeT [] (ts.map kvT)).length ≤ sizeLine := by
      refine Nat.le_trans (length_mergeT _ []) ?_
      rw [List.length_nil, Nat.zero_add, List.length_map]
      exact hz
    have hkt2 : KT H (mergeT [] (ts.map kvT)) (storedAllH [] prs) := KT.merge hkt .nil
    have hn : H s.heap.objs.size = none := I.hok.fresh (Nat.le_refl _)
    obtain ⟨o3, es, ep, g1, g2, g3, g4, _, g5⟩ := hd'
    refine ⟨.ref s.heap.objs.size, upd H s.heap.objs.size (.dT (mergeT [] (ts.map kvT))), I.laid (t' := tk) (fun b u e => hk b u (fun z => nomatch z) e) (Nat.le_refl _) ⟨hml, hm, storedAllH [] prs, hkt2.keeps fun b ys e => ?_, o3, es, ep, g1, g2, g3, g4, g5⟩, rfl, q _ hn⟩
    rw [upd_ne (ne_of_none e hn)]
    exact e
/-- d.update(e), two dicts of ints and texts -/
theorem mt_updK : MtR X "dict.update" (fun x xs H Q => ∃ (d o : Addr) (kvs more : List (Key × V)), x = .ref d ∧ xs = [.ref o] ∧ H d = some (.dK kvs) ∧ H o = some (.dK more) ∧ d ≠ o ∧ kvs.length + more.length ≤ sizeLine ∧ Q .non (upd H d (.dK (mergeK kvs more)))) := by
  intro pins s σ H x xs v us Q I rx rv h
  obtain ⟨d, o, kvs, more, rfl, rfl, hd, ho, hne, hsz, q⟩ := h
  cases rx
  obtain ⟨u, rfl, ru⟩ := rv.one
  cases ru
  obtain ⟨z1, l1, vs, rel1, dd1⟩ := dk_of I.hok hd
  obtain ⟨z2, l2, ws, rel2, dd2⟩ := dk_of I.hok ho
  refine call_meetsIn PySem.F.slot_dict_update dd1.typeIs PySem.F.entry_dict_update (PySem.F.args_dict_update_2 _ _) (meets_dict_update (mixKind X.prog X.w) d o hne l2) ⟨vs, ws, dd1, dd2, by rw [← rel1.length, ← rel2.length]; exact hsz, fun h' hd' ho' hs => ?_⟩
  have hml : (mergeK kvs more).length ≤ sizeLine := Nat.le_trans (length_mergeK more kvs) hsz
  refine ⟨.non, _, d_write I (by rw [hd]; exact True.intro) hs (let ⟨q, _, _, hq, _⟩ := hd'; ⟨q, hq⟩) (dk_new hml l1 (KV.merge rel2 rel1) hd'), rfl, q⟩
end
section
variable {K : PySem.W.Frag} {σ : L2.St} {B H : Hp} {S : List Addr} {te ta tb td tl : TE} {tA : TA} {R R' : V → Hp → Prop} {d d' : PyData} {ds ds' : List PyData}
/-! ### pairs as a dict's keys -/
abbrev pairD (k : Int × Int) : PyData := .tuple [.int k.1, .int k.2]
def DPairs (ks : List (Int × Int)) (v : V) (B : Hp) : Prop := ∃ a kvs, v = .ref a ∧ B a = some (.dT kvs) ∧ ∀ x y : Int, (valV kvs (kPair x y)).isSome = decide ((x, y) ∈ ks)
theorem stays_dpairs {ks : List (Int × Int)} : Stays (DPairs ks) := fun v B B' e ⟨a, kvs, h1, h2, h3⟩ => ⟨a, kvs, h1, e _ _ h2, h3⟩
def rDictT (K : PySem.W.Frag) : List V → Hp → VK → Prop := fun xs H Q => ∃ (a : Addr) (ts : List PairT), xs = [.ref a] ∧ SqL K H a (ts.map fun t => V.ref t.1) ∧ (∀ t ∈ ts, SqT K H t.1 [.ref t.2.1, t.2.2.2] ∧ H t.2.1 = some (.tup (t.2.2.1.map V.int))) ∧
    ∀ p, H p = none → Q (.ref p) (upd H p (.dT (mergeT [] (ts.map kvT))))
theorem pairs_tups {f : Int × Int → PyData} : ∀ {ks : List (Int × Int)} {xs : List V}, DqAll K B xs (ks.map fun k => .tuple [pairD k, f k]) →
    ∃ ts : List PairT, xs = ts.map (fun t => V.ref t.1) ∧ (∀ t ∈ ts, B t.1 = some (.tup [.ref t.2.1, t.2.2.2]) ∧ B t.2.1 = some (.tup (t.2.2.1.map V.int))) ∧ ts.map (fun t => (kvT t).1) = ks.map fun k => kPair k.1 k.2
  | [], _, h => by cases h; exact ⟨[], rfl, (fun t ht => by cases ht), rfl⟩
  | k :: ks, _, h => by
    cases h with
    | cons h1 h2 =>
    obtain ⟨ts, rfl, h3, h4⟩ := pairs_tups h2
    cases h1 with
    | @tup a ys _ hs hd =>
    cases hd with
    | @cons y1 _ _ _ q1 t =>
    cases t with
    | @cons y2 _ _ _ q2 t =>
    cases t
    cases q1 with
    | @tup b zs _ hb hz =>
    have ez := DqAll.ints_eq (ns := [k.1, k.2]) hz
    subst ez
    refine ⟨(a, b, [k.1, k.2], y2) :: ts, rfl, fun t ht => ?_, by rw [List.map_cons, List.map_cons, h4]; rfl⟩
    rcases List.mem_cons.mp ht with rfl | ht
    · exact ⟨hs, hb⟩
    · exact h3 t ht
theorem mergeT_iff (k : List Key) : ∀ (kvs acc : List (List Key × V)), (valV (mergeT acc kvs) k).isSome = true ↔ ((valV acc k).isSome = true ∨ k ∈ kvs.map fun p => p.1)
  | [], acc => by
    show (valV acc k).isSome = true ↔ _
    simp
  | p :: r, acc => by
    have ih := mergeT_iff k r (putK acc p.1 p.2)
    show (valV (mergeT (putK acc p.1 p.2) r) k).isSome = true ↔ _
    rw [ih, valV_put, List.map_cons, List.mem_cons]
    by_cases h : k = p.1
    · rw [if_pos h]
      simp [h]
    · rw [if_neg h]
      simp [h]
theorem kPair_inj {a b c d : Int} (h : kPair a b = kPair c d) : a = c ∧ b = d := by
  unfold kPair at h
  simp only [List.cons.injEq, Sum.inl.injEq] at h
  exact ⟨h.1, h.2.1⟩
theorem mem_kPair {x y : Int} {ks : List (Int × Int)} : kPair x y ∈ ks.map (fun k => kPair k.1 k.2) ↔ (x, y) ∈ ks := by
  rw [List.mem_map]
  constructor
  · rintro ⟨k, hk, e⟩
    obtain ⟨e1, e2⟩ := kPair_inj e
    rw [← e1, ← e2]
    exact hk
  · intro h
    exact ⟨(x, y), h, rfl⟩
theorem ev_dpairs {ks : List (Int × Int)} {f : Int × Int → PyData} (h : EvD K ta σ B (.list (ks.map fun k => .tuple [pairD k, f k]))) : EvR (tCB (rDictT K) (tCons ta tNil)) σ B (DPairs ks) :=
  evR_of (fun S H w Q q => (ea_cons h ea_nil).bind w fun vs B1 H1 e1 eB1 w1 rs => by
    cases rs with
    | cons r1 r2 =>
    cases r2
    cases r1 with
    | @lst a xs _ hs hd =>
    obtain ⟨ts, rfl, ht, hk⟩ := pairs_tups hd
    refine ⟨a, ts, rfl, ex_l w1.ex hs, fun t m => ⟨st_of (w1.ex _ _ (ht t m).1), w1.ex _ _ (ht t m).2⟩, fun p hp => q (.ref p) _ _ (e1.trans (Ex.new hp)) (eB1.trans (w1.newE (o := .dT (mergeT [] (ts.map kvT))) hp)) (w1.new hp) ⟨p, _, rfl, upd_same, fun x y => ?_⟩⟩
    rw [Bool.eq_iff_iff, decide_eq_true_iff, mergeT_iff, List.map_map]
    have e : (ts.map ((fun x => x.1) ∘ kvT)) = ks.map fun k => kPair k.1 k.2 := hk
    rw [e, valV_nil]
    constructor
    · rintro (h | h)
      · cases h
      · exact mem_kPair.mp h
    · exact fun h => .inr (mem_kPair.mpr h)) stays_dpairs
theorem ev_tin {x y : Int} {ks : List (Int × Int)} (ha : EvD K ta σ B (pairD (x, y))) (hd : EvR td σ B (DPairs ks)) : EvD K (tDIn ta td) σ B (.bool (decide ((x, y) ∈ ks))) :=
  evR_of (fun S H w Q q => ha.bind w fun v B1 H1 e1 eB1 w1 rx => (hd.mono eB1).bind w1 fun u B2 H2 e2 eB2 w2 ⟨a, kvs, ey, hy, hk⟩ => by
    cases rx with
    | @tup b zs _ hb hz =>
    have ez := DqAll.ints_eq (ns := [x, y]) hz
    subst ez
    subst ey
    refine ⟨a, _, rfl, .t (k := kPair x y) (w2.ex _ _ hy) (w2.ex _ _ (eB2 _ _ hb)), ?_⟩
    rw [hk]
    exact q _ B2 H2 (e1.trans e2) (eB1.trans eB2) w2 (.bl _)) stays_dp
theorem ev_tnin {x y : Int} {ks : List (Int × Int)} (ha : EvD K ta σ B (pairD (x, y))) (hd : EvR td σ B (DPairs ks)) : EvD K (tDNotIn ta td) σ B (.bool (!decide ((x, y) ∈ ks))) :=
  evR_of (fun S H w Q q => ha.bind w fun v B1 H1 e1 eB1 w1 rx => (hd.mono eB1).bind w1 fun u B2 H2 e2 eB2 w2 ⟨a, kvs, ey, hy, hk⟩ => by
    cases rx with
    | @tup b zs _ hb hz =>
    have ez := DqAll.ints_eq (ns := [x, y]) hz
    subst ez
    subst ey
    refine ⟨a, _, rfl, .t (k := kPair x y) (w2.ex _ _ hy) (w2.ex _ _ (eB2 _ _ hb)), ?_⟩
    rw [hk]
    exact q _ B2 H2 (e1.trans e2) (eB1.trans eB2) w2 (.bl _)) stays_dp

/-! ### slices -/
def EvP (to : TO) (σ : L2.St) (B : Hp) (o : Option Int) : Prop := ∀ S H, Wd S B H → ∀ Q : Option Int → Hp → Prop, (∀ H', Ex H H' → Q o H') → to σ H Q
theorem ep_none : EvP tNoPart σ B none := fun S H w Q q => q H (Ex.refl H)
theorem ep_some {i : Int} (h : EvD K ta σ B (.int i)) : EvP (tPart ta) σ B (some i) := fun S H w Q q => h.bind w fun v B1 H1 e1 eB1 w1 r => by cases r; exact ⟨i, rfl, q H1 e1⟩
theorem EvP.mono {to : TO} {o : Option Int} {B' : Hp} (e : Ex B B') (h : EvP to σ B o) : EvP to σ B' o := fun S H w Q q => h S H (w.back e) Q q
/-- a part of a list of anything -/
def cutA {α : Type} (xs : List α) (lo hi : Option Int) : List α := (xs.drop (HT.sIx xs.length 0 lo)).take (HT.sIx xs.length xs.length hi - HT.sIx xs.length 0 lo)
theorem dqAll_drop : ∀ {n : Nat} {vs : List V} {ds : List PyData}, DqAll K B vs ds → DqAll K B (vs.drop n) (ds.drop n)
  | 0, _, _, h => h
  | _ + 1, _, _, .nil => .nil
  | n + 1, _, _, .cons _ t => dqAll_drop (n := n) t
theorem dqAll_take : ∀ {n : Nat} {vs : List V} {ds : List PyData}, DqAll K B vs ds → DqAll K B (vs.take n) (ds.take n)
  | 0, _, _, _ => .nil
  | _ + 1, _, _, .nil => .nil
  | n + 1, _, _, .cons h t => .cons h (dqAll_take (n := n) t)
theorem dqAll_cut {vs : List V} (h : DqAll K B vs ds) (lo hi : Option Int) : DqAll K B (cutV vs lo hi) (cutA ds lo hi) := by
  unfold cutV cutA
  rw [DqAll.length h]
  exact dqAll_take (dqAll_drop h)
theorem ev_slL {tl th : TO} {lo hi : Option Int} (ha : EvD K ta σ B (.list ds)) (hl : EvP tl σ B lo) (hh : EvP th σ B hi) : EvD K (tSl (rSlL K) ta tl th) σ B (.list (cutA ds lo hi)) :=
  evR_of (fun S H w Q q => ha.bind w fun x B1 H1 e1 eB1 w1 rx => by
    cases rx with
    | @lst a xs _ hs hd =>
    refine hl.mono eB1 S H1 w1 _ fun H2 e2 => (hh.mono eB1) S H2 (w1.ext e2) _ fun H3 e3 => ⟨a, xs, rfl, ex_l (w1.ex.trans (e2.trans e3)) hs, fun p hp => ?_⟩
    have w3 := w1.ext (e2.trans e3)
    exact q (.ref p) _ _ (e1.trans ((e2.trans e3).trans (Ex.new hp))) (eB1.trans (w3.newE (o := .lst (cutV xs lo hi)) hp)) (w3.new hp) (.lst (sq_of upd_same) (DqAll.mono (w3.newE hp) (dqAll_cut hd lo hi)))) stays_dp
theorem ev_slT {tl th : TO} {lo hi : Option Int} (ha : EvD K ta σ B (.tuple ds)) (hl : EvP tl σ B lo) (hh : EvP th σ B hi) (hn : ¬ (HT.sIx ds.length 0 lo = 0 ∧ HT.sIx ds.length ds.length hi = ds.length)) : EvD K (tSl (rSlT K) ta tl th) σ B (.tuple (cutA ds lo hi)) :=
  evR_of (fun S H w Q q => ha.bind w fun x B1 H1 e1 eB1 w1 rx => by
    cases rx with
    | @tup a xs _ hs hd =>
    refine hl.mono eB1 S H1 w1 _ fun H2 e2 => (hh.mono eB1) S H2 (w1.ext e2) _ fun H3 e3 => ⟨a, xs, rfl, st_of (e3 _ _ (e2 _ _ (w1.ex _ _ hs))), by rw [DqAll.length hd]; exact hn, fun p hp => ?_⟩
    have w3 := w1.ext (e2.trans e3)
    exact q (.ref p) _ _ (e1.trans ((e2.trans e3).trans (Ex.new hp))) (eB1.trans (w3.newE (o := .tup (cutV xs lo hi)) hp)) (w3.new hp) (.tup upd_same (DqAll.mono (w3.newE hp) (dqAll_cut hd lo hi)))) stays_dp
/-- tie[:2] -/
theorem ev_pair {t : Tie} (ha : EvD K ta σ B (tieD t)) : EvD K (tSl (rSlT K) ta tNoPart (tPart (tC (.int 2)))) σ B (pairD (t.1, t.2.1)) :=
  ev_slT (lo := none) (hi := some 2) ha ep_none (ep_some (K := K) ev_int) (by show ¬ (HT.sIx 3 0 none = 0 ∧ HT.sIx 3 3 (some 2) = 3); decide)

/-! ### in a list of data; is True; zip -/
theorem ev_inD (ha : EvD K ta σ B d) (hb : EvD K tb σ B (.list ds)) (s1 : SeqAt.shaped d = true) (s2 : SeqAt.shaped (.list ds) = true) : EvD K (tOp (rInD K) ta tb) σ B (.bool (ds.any fun z => PyData.eqv z d)) :=
  ev_op ha hb (fun x y B' H' Q hx hy e q => ⟨d, ds, Dq.dp (Dq.mono e hx), Dq.dp (Dq.mono e hy), s1, s2, q _ (.bl _)⟩) stays_dp
theorem ev_ninD (ha : EvD K ta σ B d) (hb : EvD K tb σ B (.list ds)) (s1 : SeqAt.shaped d = true) (s2 : SeqAt.shaped (.list ds) = true) : EvD K (tOp (rNotInD K) ta tb) σ B (.bool (!ds.any fun z => PyData.eqv z d)) :=
  ev_op ha hb (fun x y B' H' Q hx hy e q => ⟨d, ds, Dq.dp (Dq.mono e hx), Dq.dp (Dq.mono e hy), s1, s2, q _ (.bl _)⟩) stays_dp
theorem ev_isB {a b : Bool} (ha : EvD K ta σ B (.bool a)) (hb : EvD K tb σ B (.bool b)) : EvD K (tOp rIsB ta tb) σ B (.bool (decide (a = b))) :=
  ev_op ha hb (fun x y B' H' Q hx hy e q => by cases hx; cases hy; exact ⟨a, b, rfl, rfl, q _ (.bl _)⟩) stays_dp
theorem ev_notB {a b : Bool} (ha : EvD K ta σ B (.bool a)) (hb : EvD K tb σ B (.bool b)) : EvD K (tOp rNotB ta tb) σ B (.bool (!decide (a = b))) :=
  ev_op ha hb (fun x y B' H' Q hx hy e q => by cases hx; cases hy; exact ⟨a, b, rfl, rfl, q _ (.bl _)⟩) stays_dp
def zipD (ds ds' : List PyData) : List PyData := (ds.zip ds').map fun p => .tuple [p.1, p.2]
theorem wk_zipA {t : Bool} (ha : EvAD K tA σ B [seqD t ds, seqD t ds']) : WkD K (RZ.iZipA K tA) σ B (zipD ds ds') := fun S H w R k => ha.bind w fun vs B1 H1 e1 eB1 w1 rs => by
  have hlen : (zipD ds ds').length = min ds.length ds'.length := by unfold zipD; rw [List.length_map, List.length_zip]
  rw [hlen] at k
  cases rs with
  | cons r1 rs =>
  cases rs with
  | cons r2 rs =>
  cases rs
  cases t with
  | true =>
    cases (show Dq K B1 _ (.tuple ds) from r1) with
    | @tup a xs _ hs hd =>
    cases (show Dq K B1 _ (.tuple ds') from r2) with
    | @tup b ys _ hs2 hd2 =>
    have l1 := DqAll.length hd
    have l2 := DqAll.length hd2
    refine ⟨a, b, xs, ys, rfl, .inr ⟨st_of (w1.ex _ _ hs), st_of (w1.ex _ _ hs2), k _ B1 H1 e1 eB1 w1 (fun i H' e hi => ⟨xs, ys, xs[i]'(by omega), ys[i]'(by omega), st_of (e _ _ hs), st_of (e _ _ hs2), List.getElem?_eq_getElem _, List.getElem?_eq_getElem _⟩) (fun i H' e hi => ⟨xs, ys, st_of (e _ _ hs), st_of (e _ _ hs2), by omega⟩) fun i S' B' H' x H'' eB w' hi y => ?_⟩⟩
    obtain ⟨T, x1, x2, rfl, hT, rfl, f1, f2⟩ := y
    have g1 := f1 _ (st_of ((eB.trans w'.ex) _ _ hs))
    have g2 := f2 _ (st_of ((eB.trans w'.ex) _ _ hs2))
    obtain ⟨d1, p1, q1⟩ := DqAll.get hd g1
    obtain ⟨d2, p2, q2⟩ := DqAll.get hd2 g2
    refine ⟨_, Ex.new hT, w'.newE hT, w'.new hT, .tuple [d1, d2], ?_, .tup upd_same (.cons (Dq.mono (eB.trans (w'.newE hT)) q1) (.cons (Dq.mono (eB.trans (w'.newE hT)) q2) .nil))⟩
    unfold zipD
    rw [List.getElem?_map, List.getElem?_zip_eq_some (z := (d1, d2)).mpr ⟨p1, p2⟩]
    rfl
  | false =>
    cases (show Dq K B1 _ (.list ds) from r1) with
    | @lst a xs _ hs hd =>
    cases (show Dq K B1 _ (.list ds') from r2) with
    | @lst b ys _ hs2 hd2 =>
    have l1 := DqAll.length hd
    have l2 := DqAll.length hd2
    refine ⟨a, b, xs, ys, rfl, .inl ⟨ex_l w1.ex hs, ex_l w1.ex hs2, k _ B1 H1 e1 eB1 w1 (fun i H' e hi => ⟨xs, ys, xs[i]'(by omega), ys[i]'(by omega), ex_l e hs, ex_l e hs2, List.getElem?_eq_getElem _, List.getElem?_eq_getElem _⟩) (fun i H' e hi => ⟨xs, ys, ex_l e hs, ex_l e hs2, by omega⟩) fun i S' B' H' x H'' eB w' hi y => ?_⟩⟩
    obtain ⟨T, x1, x2, rfl, hT, rfl, f1, f2⟩ := y
    have g1 := f1 _ (ex_l (eB.trans w'.ex) hs)
    have g2 := f2 _ (ex_l (eB.trans w'.ex) hs2)
    obtain ⟨d1, p1, q1⟩ := DqAll.get hd g1
    obtain ⟨d2, p2, q2⟩ := DqAll.get hd2 g2
    refine ⟨_, Ex.new hT, w'.newE hT, w'.new hT, .tuple [d1, d2], ?_, .tup upd_same (.cons (Dq.mono (eB.trans (w'.newE hT)) q1) (.cons (Dq.mono (eB.trans (w'.newE hT)) q2) .nil))⟩
    unfold zipD
    rw [List.getElem?_map, List.getElem?_zip_eq_some (z := (d1, d2)).mpr ⟨p1, p2⟩]
    rfl
def rCntB (K : PySem.W.Frag) : V → List V → Hp → VK → Prop := fun x xs H Q => ∃ (p : Addr) (ns : List Bool) (k : Bool), x = .ref p ∧ xs = [.bl k] ∧ SqL K H p (ns.map V.bl) ∧ Q (.int (ns.count k : Nat)) H
theorem ev_cntB {bs : List Bool} {k : Bool} (ha : EvD K ta σ B (.list (bs.map .bool))) (hb : EvD K tb σ B (.bool k)) : EvD K (tBM K "list" (rCntB K) ta (tCons tb tNil)) σ B (.int (bs.count k : Nat)) :=
  evR_of (fun S H w Q q => ha.bind w fun x B1 H1 e1 eB1 w1 rx => by
    cases rx with
    | @lst a xs _ hs hd =>
    have e := DqAll.bools_eq hd
    subst e
    refine ⟨.inl ⟨rfl, _, ex_l w1.ex hs⟩, (hb.mono eB1).bind w1 fun y B2 H2 e2 eB2 w2 ry => ?_⟩
    cases ry
    exact ⟨a, bs, k, rfl, rfl, ex_l (eB2.trans w2.ex) hs, q _ B2 H2 (e1.trans e2) (eB1.trans eB2) w2 (.int _)⟩) stays_dp
def rRng1 : List V → Hp → VK → Prop := fun vs H Q => ∃ j, vs = [V.int j] ∧ ∀ p, H p = none → Q (.ref p) (upd H p (.rng 0 j))
def rListRng : List V → Hp → VK → Prop := fun vs H Q => ∃ (r : Addr) (a b : Int), vs = [V.ref r] ∧ H r = some (.rng a b) ∧ -(2 ^ 61) ≤ a ∧ a < 2 ^ 61 ∧ -(2 ^ 61) ≤ b ∧ b < 2 ^ 61 ∧ (b - a).toNat ≤ 100000 ∧
    ∀ p, H p = none → Q (.ref p) (upd H p (.lst ((List.range (b - a).toNat).map fun (i : Nat) => V.int (a + (i : Int)))))
theorem ev_listrange {j : Int} (h : EvD K ta σ B (.int j)) (hj : -100000 ≤ j ∧ j ≤ 100000) : EvD K (tCB rListRng (tCons (tCB rRng1 (tCons ta tNil)) tNil)) σ B (.list ((rngI 0 j.toNat).map .int)) :=
  evR_of (fun S H w Q q => h.bind w fun x B1 H1 e1 eB1 w1 rx => by
    cases rx
    refine ⟨j, rfl, fun p hp => ⟨p, 0, j, rfl, upd_same, by decide, by decide, by omega, by omega, by omega, fun l hl => ?_⟩⟩
    have w2 := w1.ext (Ex.new (o := .rng 0 j) hp)
    refine q (.ref l) _ _ (e1.trans ((Ex.new hp).trans (Ex.new hl))) (eB1.trans (w2.newE (o := .lst ((List.range (j - 0).toNat).map fun (i : Nat) => V.int (0 + (i : Int)))) hl)) (w2.new hl) (.lst (sq_of upd_same) ?_)
    have e : (List.range (j - 0).toNat).map (fun (i : Nat) => V.int (0 + (i : Int))) = (rngI 0 j.toNat).map V.int := by
      unfold rngI
      rw [List.map_map, Int.sub_zero]
      rfl
    rw [e]
    exact DqAll.ints) stays_dp
theorem sum_take1 {l : List Int} {i : Nat} {a : Int} (h : l[i]? = some a) : (l.take (i + 1)).sum = (l.take i).sum + a := by
  rw [List.take_add_one, h, List.sum_append]
  simp
theorem shaped_ints (ns : List Int) : SeqAt.shaped (.list (ns.map .int)) = true := PySem.W.ke_shaped_ints ns
theorem eqv_refl_ints (ns : List Int) : PyData.eqv (.list (ns.map .int)) (.list (ns.map .int)) = true := SeqAt.eqv_refl _ (SeqAt.canLay_of_shaped (shaped_ints ns))
end
section
variable {K : PySem.W.Frag} {σ : L2.St} {B H : Hp} {S : List Addr} {te ta tb tc : TE}
/-- a < b < c of ints -/
theorem ev_chain {g g' : Int → Int → Bool} {i j k : Int} (ha : EvD K ta σ B (.int i)) (hb : EvD K tb σ B (.int j)) (hc : EvD K tc σ B (.int k)) :
    EvD K (tChain (rI0 fun i j => .bl (g i j)) (rI0 fun i j => .bl (g' i j)) ta tb tc) σ B (.bool (g i j && g' j k)) :=
  evR_of (fun S H w Q q => ha.bind w fun x B1 H1 e1 eB1 w1 rx => (hb.mono eB1).bind w1 fun y B2 H2 e2 eB2 w2 ry => by
    cases rx
    cases ry
    refine ⟨i, j, rfl, rfl, g i j, rfl, ?_⟩
    revert q
    cases hg : g i j with
    | true =>
      intro q
      exact ((hc.mono eB1).mono eB2).bind w2 fun z B3 H3 e3 eB3 w3 rz => (by
        cases rz
        exact ⟨j, k, rfl, rfl, q _ B3 H3 (e1.trans (e2.trans e3)) (eB1.trans (eB2.trans eB3)) w3 (.bl _)⟩)
    | false =>
      intro q
      exact q _ B2 H2 (e1.trans e2) (eB1.trans eB2) w2 (.bl _)) stays_dp
/-- tuples of ints, the lesser one -/
theorem ev_ltT {ns ms : List Int} (ha : EvD K ta σ B (.tuple (ns.map .int))) (hb : EvD K tb σ B (.tuple (ms.map .int))) : EvD K (tOp (rLtT K) ta tb) σ B (.bool (HT.lexLt ns ms)) :=
  ev_op ha hb (fun x y B' H' Q hx hy e q => by
    cases hx with
    | tup h1 h2 =>
    cases hy with
    | tup h3 h4 =>
    have e1 := DqAll.ints_eq h2
    have e2 := DqAll.ints_eq h4
    subst e1 e2
    exact ⟨_, _, ns, ms, rfl, rfl, st_of (e _ _ h1), st_of (e _ _ h3), q _ (.bl _)⟩) stays_dp
end
/-! ### data of bounded depth, for the law's own sameness -/
def okD : Nat → PyData → Bool
  | k + 1, .list xs => decide (xs.length ≤ 40000) && xs.all (okD k)
  | k + 1, .tuple xs => decide (xs.length ≤ 40000) && xs.all (okD k)
  | _, x => atomD x
theorem okD_cases {n : Nat} {x : PyData} (h : okD n x = true) : atomD x = true ∨ ∃ m t xs, n = m + 1 ∧ x = seqD t xs ∧ xs.length ≤ 40000 ∧ ∀ y ∈ xs, okD m y = true := by
  match n, x with
  | 0, .none => exact .inl rfl
  | 0, .bool _ => exact .inl rfl
  | 0, .int _ => exact .inl rfl
  | 0, .str _ => exact .inl rfl
  | 0, .list _ => cases h
  | 0, .tuple _ => cases h
  | 0, .dict _ => cases h
  | _ + 1, .none => exact .inl rfl
  | _ + 1, .bool _ => exact .inl rfl
  | _ + 1, .int _ => exact .inl rfl
  | _ + 1, .str _ => exact .inl rfl
  | k + 1, .list xs =>
    unfold okD at h
    rw [Bool.and_eq_true, decide_eq_true_iff, List.all_eq_true] at h
    exact .inr ⟨k, false, xs, rfl, rfl, h.1, h.2⟩
  | k + 1, .tuple xs =>
    unfold okD at h
    rw [Bool.and_eq_true, decide_eq_true_iff, List.all_eq_true] at h
    exact .inr ⟨k, true, xs, rfl, rfl, h.1, h.2⟩
  | _ + 1, .dict _ => cases h
def fSame (n : Nat) (ds : List PyData) (d : PyData) : Prop := ∃ x, ds = [x, x] ∧ okD n x = true ∧ d = .bool true
theorem kit_seq (t : Bool) (xs : List PyData) : kitB (tyN (seqD t xs)) "list" = some (!t) ∧ kitB (tyN (seqD t xs)) "tuple" = some t := by
  cases t with
  | true => exact (by decide +kernel : kitB "tuple" "list" = some (!true) ∧ kitB "tuple" "tuple" = some true)
  | false => exact (by decide +kernel : kitB "list" "list" = some (!false) ∧ kitB "list" "tuple" = some false)
theorem zip_self {α : Type} : ∀ {xs : List α} {p : α × α}, p ∈ xs.zip xs → p.1 = p.2
  | [], _, h => by cases h
  | x :: r, p, h => by
    rw [List.zip_cons_cons] at h
    rcases List.mem_cons.mp h with rfl | h
    · rfl
    · exact zip_self h
theorem zip_mem {α β : Type} {xs : List α} {ys : List β} {p : α × β} (h : p ∈ xs.zip ys) : p.1 ∈ xs := (List.of_mem_zip h).1
end Pw

/-! ## PwX -/
namespace Pw
open PySem L2 Evl
theorem _root_.L2.Room.units65 {k : Nat} {A : Around} (r : Room k A) : A.units + 65 < cLine := by have := r.un; omega
section
variable {K : PySem.W.Frag} {σ : L2.St} {B H : Hp} {S : List Addr} {b : Addr} {k c : Nat} {te ta tb tl : TE} {tA : TA} {g : TG} {tu : TS} {D : Ends} {ds : List PyData} {d : PyData}
/-- a loop over a list: first the list -/
theorem st_forL (h : tl σ H fun v H1 => tFor (iList K (tC v)) g tu D σ H1) : tFor (iList K tl) g tu D σ H := h
theorem st_forT (h : tl σ H fun v H1 => tFor (iTup K (tC v)) g tu D σ H1) : tFor (iTup K tl) g tu D σ H := h
theorem st_gn {i : Nat} {v : V} {Q : L2.St → Hp → Prop} (h : Q (σ.set i (some v)) H) : gName i v σ H Q := h
theorem st_seq {t u : TS} (h : t { D with nx := u D } σ H) : tSeq t u D σ H := h
/-- own list, one more -/
theorem st_app {i : Nat} {a : Addr} {ys : List V} {R : V → Hp → Prop} (w : Wd S B H) (hi : σ[i]? = some (some (.ref a))) (hA : H a = some (.lst ys)) (hm : a ∈ S) (hl : ys.length ≤ 40000) (he : EvR te σ B R)
    (k : ∀ v B' H', Ex H H' → Ex B B' → Wd S B' (upd H' a (.lst (ys ++ [v]))) → R v B' → D.nx σ (upd H' a (.lst (ys ++ [v])))) : tDrop (tBM K "list" rAppend (tVar i) (tCons te tNil)) D σ H :=
  ⟨_, hi, .inl ⟨rfl, _, sq_of hA⟩, he.bind w fun v B1 H1 e1 eB1 w1 r => ⟨a, ys, v, rfl, rfl, e1 _ _ hA, sz_lt (by omega), k v B1 H1 e1 eB1 (w1.put hm) r⟩⟩
/-- a list at a drawn place -/
theorem ex_ixX {p : Int → Prop} {P : PyData → Prop} (ha : EvD K ta σ B (.list ds)) (hb : EvX S b k tb σ B (IntIn K p)) (hm : ∀ i, p i → ∃ d, atI ds i = some d ∧ P d) : EvX S b k (tOp (rIxL K) ta tb) σ B (fun v B' => ∃ d, P d ∧ Dq K B' v d) :=
  fun H c w hbS hB hl Q q => ha.bind w fun x B1 H1 e1 eB1 w1 hx => (hb.mono eB1).get w1 hbS (hB.ex e1) hl fun i B2 H2 hi x2 eB2 w2 hB2 => by
    obtain ⟨d, hd, hP⟩ := hm i hi
    exact (ev_ixL (ta := tC x) (tb := tC (.int i)) (σ := σ) (ev_c (Dq.mono eB2 hx)) ev_int hd).bind w2 fun v B3 H3 e3 eB3 w3 r => q v H3 ((Xs.of e1).trans (x2.trans (Xs.of e3))) (hB2.ex e3) ⟨d, hP, Dq.mono (ex_mi w3.ex w3.no) r⟩
/-- a list from a drawn place on -/
theorem ex_slL {p : Int → Prop} (ha : EvD K ta σ B (.list ds)) (hb : EvX S b k tb σ B (IntIn K p)) : EvX S b k (tSl (rSlL K) ta (tPart tb) tNoPart) σ B (fun v B' => ∃ i, p i ∧ Dq K B' v (.list (cutA ds (some i) none))) :=
  fun H c w hbS hB hl Q q => ha.bind w fun x B1 H1 e1 eB1 w1 hx => (hb.mono eB1).get w1 hbS (hB.ex e1) hl fun i B2 H2 hi x2 eB2 w2 hB2 => by
    have h3 : tSl (rSlL K) (tC x) (tPart (tC (.int i))) tNoPart σ H2 Q := (ev_slL (ta := tC x) (σ := σ) (tl := tPart (tC (.int i))) (th := tNoPart) (hi := none) (ev_c (Dq.mono eB2 hx)) (ep_some (K := K) ev_int) ep_none).bind w2 (Q := Q) fun v B3 H3 e3 eB3 w3 r => q v H3 ((Xs.of e1).trans (x2.trans (Xs.of e3))) (hB2.ex e3) ⟨i, hi, Dq.mono (ex_mi w3.ex w3.no) r⟩
    obtain ⟨j, ej, h4⟩ := h3
    cases ej
    exact ⟨i, rfl, h4⟩
end
theorem cutA_map {α β : Type} (f : α → β) (xs : List α) (lo hi : Option Int) : cutA (xs.map f) lo hi = (cutA xs lo hi).map f := by
  unfold cutA
  rw [List.length_map, List.map_take, List.map_drop]
theorem cutA_mem {α : Type} {x : α} {xs : List α} {lo hi : Option Int} (h : x ∈ cutA xs lo hi) : x ∈ xs := List.mem_of_mem_drop (List.mem_of_mem_take h)
theorem cutA_len {α : Type} (xs : List α) (lo hi : Option Int) : (cutA xs lo hi).length ≤ xs.length := by
  unfold cutA
  rw [List.length_take, List.length_drop]
  omega
/-- data that can be laid out and is not deep -/
def Shp (n : Nat) (d : PyData) : Prop := d.canLay0 = true ∧ d.depth ≤ n
theorem shp_int {n : Nat} {i : Int} : Shp n (.int i) := ⟨by simp [PyData.canLay0], by simp [PyData.depth]⟩
theorem shp_all {n : Nat} : ∀ {xs : List PyData}, (∀ x ∈ xs, Shp n x) → PyData.canLayAll0 xs = true ∧ PyData.depthAll xs ≤ n
  | [], _ => ⟨by simp [PyData.canLayAll0], by simp [PyData.depthAll]⟩
  | x :: r, h => by
    have h1 := h x List.mem_cons_self
    have h2 := shp_all fun y hy => h y (List.mem_cons_of_mem x hy)
    have h3 := h1.1
    have h4 := h1.2
    have h5 := h2.1
    have h6 := h2.2
    constructor
    · simp [PyData.canLayAll0, h3, h5]
    · simp only [PyData.depthAll]
      omega
theorem shp_list {n : Nat} {xs : List PyData} (h : ∀ x ∈ xs, Shp n x) : Shp (n + 1) (.list xs) := by
  have h1 := shp_all h
  refine ⟨by simp only [PyData.canLay0]; exact h1.1, ?_⟩
  have h2 := h1.2
  simp only [PyData.depth]
  omega
theorem shp_tup {n : Nat} {xs : List PyData} (h : ∀ x ∈ xs, Shp n x) : Shp (n + 1) (.tuple xs) := by
  have h1 := shp_all h
  refine ⟨by simp only [PyData.canLay0]; exact h1.1, ?_⟩
  have h2 := h1.2
  simp only [PyData.depth]
  omega
theorem Shp.shaped {n : Nat} {d : PyData} (h : Shp n d) (hn : n ≤ 64) : SeqAt.shaped d = true := by
  have h1 := h.2
  show (d.canLay0 && decide (d.depth ≤ 64)) = true
  rw [h.1, decide_eq_true (by omega)]
  rfl
theorem shp_pair (k : Int × Int) : Shp 1 (pairD k) := shp_tup fun x hx => by
  simp only [List.mem_cons, List.not_mem_nil, or_false] at hx
  rcases hx with rfl | rfl <;> exact shp_int
theorem shp_pairs (ks : List (Int × Int)) : Shp 2 (.list (ks.map pairD)) := shp_list fun x hx => by
  obtain ⟨k, _, rfl⟩ := List.mem_map.mp hx
  exact shp_pair k
theorem shaped_pair (k : Int × Int) : SeqAt.shaped (pairD k) = true := (shp_pair k).shaped (by decide)
theorem shaped_pairs (ks : List (Int × Int)) : SeqAt.shaped (.list (ks.map pairD)) = true := (shp_pairs ks).shaped (by decide)
theorem eqv_refl' {x : PyData} (h : SeqAt.shaped x = true) : PyData.eqv x x = true := SeqAt.eqv_refl _ (SeqAt.canLay_of_shaped h)
theorem eqv_pair (a b : Int × Int) : PyData.eqv (pairD a) (pairD b) = decide (a = b) := by
  obtain ⟨a1, a2⟩ := a
  obtain ⟨b1, b2⟩ := b
  simp only [pairD, PyData.eqv, PyData.eqvAll]
  by_cases h1 : a1 = b1 <;> by_cases h2 : a2 = b2 <;> simp [h1, h2]
theorem any_eqv (ks : List (Int × Int)) (k : Int × Int) : ((ks.map pairD).any fun z => PyData.eqv z (pairD k)) = decide (k ∈ ks) := by
  rw [List.any_map, Bool.eq_iff_iff, List.any_eq_true, decide_eq_true_iff]
  constructor
  · rintro ⟨x, hx, e⟩
    rw [Function.comp_apply, eqv_pair, decide_eq_true_iff] at e
    exact e ▸ hx
  · intro h
    exact ⟨k, h, by rw [Function.comp_apply, eqv_pair]; exact decide_eq_true rfl⟩
theorem okD_web {n : Int} {ts : List Tie} (h : ts.length ≤ 40000) : okD 4 (webD n ts) = true := by
  show (decide (2 ≤ 40000) && [PyData.int n, .tuple (ts.map tieD)].all (okD 3)) = true
  have h2 : okD 3 (.tuple (ts.map tieD)) = true := by
    show (decide ((ts.map tieD).length ≤ 40000) && (ts.map tieD).all (okD 2)) = true
    rw [List.length_map, decide_eq_true h, List.all_map, Bool.true_and, List.all_eq_true]
    intro t _
    rfl
  simp only [List.all_cons, List.all_nil, h2]
  rfl
end Pw

/-! ## PwKT -/
namespace Pw
open PySem L2 Evl
/-- a tuple that the module binds to a name -/
def KTup (K : PySem.W.Frag) (a : Addr) (xs : List V) : Prop := ∃ (o : Obj) (its : Array Value) (n : Nat), K.lookup a = some o ∧ o.cls = .type "tuple" ∧ o.data = .seq its n ∧ its.size ≤ sizeLine ∧ Vals xs its.toList
end Pw

/-! ## K24Row -/
namespace Pw
open PySem L2 Evl
def topS (i : Nat) : Stmt := PySem.Challenge.pw_partedweb_k24_what_shares_are.main.body.getD i (.Pass ⟨0, 0, 0, 0⟩)
abbrev s_is_number : Stmt := topS 1
abbrev ps_is_number : List Str := ["thing", "least"]
abbrev nm_is_number : List Str := ["thing", "least"]
abbrev s_common : Stmt := topS 3
abbrev ps_common : List Str := ["one", "other"]
abbrev nm_common : List Str := ["one", "other"]
abbrev s_part_of : Stmt := topS 4
abbrev ps_part_of : List Str := ["top", "below"]
abbrev nm_part_of : List Str := ["top", "below", "share"]
abbrev s_is_part : Stmt := topS 5
abbrev ps_is_part : List Str := ["thing"]
abbrev nm_is_part : List Str := ["thing"]
abbrev s_added : Stmt := topS 6
abbrev ps_added : List Str := ["one", "other"]
abbrev nm_added : List Str := ["one", "other"]
abbrev s_added_up : Stmt := topS 7
abbrev ps_added_up : List Str := ["parts"]
abbrev nm_added_up : List Str := ["parts", "found", "part"]
abbrev s_is_share_row : Stmt := topS 10
abbrev ps_is_share_row : List Str := ["thing", "many"]
abbrev nm_is_share_row : List Str := ["thing", "many", "part"]
abbrev s_is_shares : Stmt := topS 11
abbrev ps_is_shares : List Str := ["web", "posts", "thing"]
abbrev nm_is_shares : List Str := ["web", "posts", "thing", "row", "number", "post"]
abbrev s_law_cell_at : Stmt := topS 13
abbrev ps_law_cell_at : List Str := ["_law_script", "_law_k"]
abbrev nm_law_cell_at : List Str := ["_law_script", "_law_k"]
abbrev s_law_box : Stmt := topS 14
abbrev ps_law_box : List Str := ["_law_script", "_law_k"]
abbrev nm_law_box : List Str := ["_law_script", "_law_k", "_law_cell"]
abbrev s_law_take : Stmt := topS 15
abbrev ps_law_take : List Str := ["_law_box_here", "_law_many_here"]
abbrev nm_law_take : List Str := ["_law_box_here", "_law_many_here", "_law_found", "_law_once", "_law_twice"]
abbrev s_law_many : Stmt := topS 16
abbrev ps_law_many : List Str := ["_law_box_here", "_law_least", "_law_few", "_law_most"]
abbrev nm_law_many : List Str := ["_law_box_here", "_law_least", "_law_few", "_law_most"]
abbrev s_law_weight : Stmt := topS 17
abbrev ps_law_weight : List Str := ["_law_box_here", "_law_heavy"]
abbrev nm_law_weight : List Str := ["_law_box_here", "_law_heavy"]
abbrev s_law_web : Stmt := topS 18
abbrev ps_law_web : List Str := ["_law_box_here", "_law_many_here"]
abbrev nm_law_web : List Str := ["_law_box_here", "_law_many_here", "_law_heavy", "_law_ties", "_law_place", "_law_turn", "_law_one", "_law_other", "_law_pair"]
abbrev s_law_posts : Stmt := topS 19
abbrev ps_law_posts : List Str := ["_law_box_here", "_law_many_here", "_law_most"]
abbrev nm_law_posts : List Str := ["_law_box_here", "_law_many_here", "_law_most", "_law_some", "_law_found", "_law_turn"]
abbrev s_law_shared : Stmt := topS 21
abbrev ps_law_shared : List Str := ["_law_one", "_law_other"]
abbrev nm_law_shared : List Str := ["_law_one", "_law_other"]
abbrev s_law_frac : Stmt := topS 22
abbrev ps_law_frac : List Str := ["_law_top", "_law_below"]
abbrev nm_law_frac : List Str := ["_law_top", "_law_below", "_law_by"]
abbrev s_law_plus : Stmt := topS 23
abbrev ps_law_plus : List Str := ["_law_one", "_law_other"]
abbrev nm_law_plus : List Str := ["_law_one", "_law_other"]
abbrev s_law_row : Stmt := topS 24
abbrev ps_law_row : List Str := ["_law_box_here", "_law_many_here"]
abbrev nm_law_row : List Str := ["_law_box_here", "_law_many_here", "_law_way", "_law_some", "_law_k", "_law_one"]
abbrev s_law_shares : Stmt := topS 25
abbrev ps_law_shares : List Str := ["_law_box_here", "_law_web_here", "_law_posts_here"]
abbrev nm_law_shares : List Str := ["_law_box_here", "_law_web_here", "_law_posts_here", "_law_found", "_law_place", "_law_row_here", "_law_post"]
abbrev s_law_world : Stmt := topS 26
abbrev ps_law_world : List Str := ["_law_box_here"]
abbrev nm_law_world : List Str := ["_law_box_here", "_law_web_here", "_law_posts_here"]
abbrev s_law_is_fraction : Stmt := topS 27
abbrev ps_law_is_fraction : List Str := ["_law_thing"]
abbrev nm_law_is_fraction : List Str := ["_law_thing", "_law_part"]
abbrev s_law_is : Stmt := topS 28
abbrev ps_law_is : List Str := ["_law_web_here", "_law_posts_here", "_law_thing"]
abbrev nm_law_is : List Str := ["_law_web_here", "_law_posts_here", "_law_thing", "_law_place", "_law_row_here", "_law_total", "_law_part"]
abbrev s_law_bent : Stmt := topS 29
abbrev ps_law_bent : List Str := ["_law_box_here", "_law_posts_here", "_law_shares_here"]
abbrev nm_law_bent : List Str := ["_law_box_here", "_law_posts_here", "_law_shares_here", "_law_at", "_law_l", "_law_row_here", "_law_top", "_law_below", "_law_news", "_law_rows", "_law_things", "_law_new", "_law_one"]
abbrev s_law : Stmt := topS 30
abbrev ps_law : List Str := ["_law_script"]
abbrev nm_law : List Str := ["_law_script", "_law_k", "_law_box_here", "_law_web_here", "_law_posts_here", "_law_shares_here", "_law_turn", "_law_thing", "_law_kept", "_law_found"]
/-- the built-ins that the module does not bind -/
structure Txt (mg : Str → Option Value) : Prop where
  m_len : mg "len" = none
  m_abs : mg "abs" = none
  m_int : mg "int" = none
  m_dict : mg "dict" = none
  m_sum : mg "sum" = none
  m_range : mg "range" = none
  m_min : mg "min" = none
  m_max : mg "max" = none
  m_tuple : mg "tuple" = none
  m_sorted : mg "sorted" = none
  m_isinstance : mg "isinstance" = none
  m_list : mg "list" = none
  m_str : mg "str" = none
  m_bool : mg "bool" = none
  m_all : mg "all" = none
  m_any : mg "any" = none
  m_zip : mg "zip" = none
  m_enumerate : mg "enumerate" = none
  m_reversed : mg "reversed" = none
  m_set : mg "set" = none
/-- the defs of the text -/
structure Defs (K : PySem.W.Frag) (mg : Str → Option Value) : Prop where
  g_WHOLE : ∃ a, mg "WHOLE" = some (.ref a) ∧ KTup K a [V.int 1, V.int 1]
  d_is_number : ∃ f fd, Dfn K mg "is_number" s_is_number ps_is_number f fd
  d_common : ∃ f fd, Dfn K mg "common" s_common ps_common f fd
  d_part_of : ∃ f fd, Dfn K mg "part_of" s_part_of ps_part_of f fd
  d_is_part : ∃ f fd, Dfn K mg "is_part" s_is_part ps_is_part f fd
  d_added : ∃ f fd, Dfn K mg "added" s_added ps_added f fd
  d_added_up : ∃ f fd, Dfn K mg "added_up" s_added_up ps_added_up f fd
  d_is_share_row : ∃ f fd, Dfn K mg "is_share_row" s_is_share_row ps_is_share_row f fd
  d_is_shares : ∃ f fd, Dfn K mg "is_shares" s_is_shares ps_is_shares f fd
  d_law_cell_at : ∃ f fd, Dfn K mg "_law_cell_at" s_law_cell_at ps_law_cell_at f fd
  d_law_box : ∃ f fd, Dfn K mg "_law_box" s_law_box ps_law_box f fd
  d_law_take : ∃ f fd, Dfn K mg "_law_take" s_law_take ps_law_take f fd
  d_law_many : ∃ f fd, Dfn K mg "_law_many" s_law_many ps_law_many f fd
  d_law_weight : ∃ f fd, Dfn K mg "_law_weight" s_law_weight ps_law_weight f fd
  d_law_web : ∃ f fd, Dfn K mg "_law_web" s_law_web ps_law_web f fd
  d_law_posts : ∃ f fd, Dfn K mg "_law_posts" s_law_posts ps_law_posts f fd
  d_law_shared : ∃ f fd, Dfn K mg "_law_shared" s_law_shared ps_law_shared f fd
  d_law_frac : ∃ f fd, Dfn K mg "_law_frac" s_law_frac ps_law_frac f fd
  d_law_plus : ∃ f fd, Dfn K mg "_law_plus" s_law_plus ps_law_plus f fd
  d_law_row : ∃ f fd, Dfn K mg "_law_row" s_law_row ps_law_row f fd
  d_law_shares : ∃ f fd, Dfn K mg "_law_shares" s_law_shares ps_law_shares f fd
  d_law_world : ∃ f fd, Dfn K mg "_law_world" s_law_world ps_law_world f fd
  d_law_is_fraction : ∃ f fd, Dfn K mg "_law_is_fraction" s_law_is_fraction ps_law_is_fraction f fd
  d_law_is : ∃ f fd, Dfn K mg "_law_is" s_law_is ps_law_is f fd
  d_law_bent : ∃ f fd, Dfn K mg "_law_bent" s_law_bent ps_law_bent f fd
end Pw

/-! ## PwConn -/
namespace Pw
open PySem L2 Evl
/-! ### what hangs together -/
def Adj (ts : List Tie) (x y : Int) : Prop := ∃ t ∈ ts, t.1 = x ∧ t.2.1 = y ∨ t.1 = y ∧ t.2.1 = x
theorem Adj.symm {ts : List Tie} {x y : Int} (h : Adj ts x y) : Adj ts y x := h.elim fun t ⟨h1, h2⟩ => ⟨t, h1, h2.symm⟩
inductive Conn (ts : List Tie) (x : Int) : Int → Prop
  | refl : Conn ts x x
  | tail {y z : Int} : Conn ts x y → Adj ts y z → Conn ts x z
theorem Conn.trans {ts : List Tie} {x y z : Int} (h1 : Conn ts x y) (h2 : Conn ts y z) : Conn ts x z := by
  induction h2 with
  | refl => exact h1
  | tail _ a ih => exact ih.tail a
theorem Conn.symm {ts : List Tie} {x y : Int} (h : Conn ts x y) : Conn ts y x := by
  induction h with
  | refl => exact .refl
  | tail _ a ih => exact (Conn.tail .refl a.symm).trans ih
/-- ties within n places -/
def TiesIn (n : Int) (ts : List Tie) : Prop := ∀ t ∈ ts, 0 ≤ t.1 ∧ t.1 < t.2.1 ∧ t.2.1 < n
theorem WebOk.ins {n : Int} {ts : List Tie} (h : WebOk n ts) : TiesIn n ts := fun t ht => ⟨(h.tie t ht).1, (h.tie t ht).2.1, (h.tie t ht).2.2.1⟩
theorem Conn.range {n : Int} {ts : List Tie} (h : TiesIn n ts) {x y : Int} (c : Conn ts x y) (hx : 0 ≤ x ∧ x < n) : 0 ≤ y ∧ y < n := by
  induction c with
  | refl => exact hx
  | tail _ a _ =>
    obtain ⟨t, ht, e⟩ := a
    have := h t ht
    omega
def nb (ts : List Tie) (p : Int) : List Int := ts.flatMap fun t => if t.1 = p then [t.2.1] else if t.2.1 = p then [t.1] else []
theorem nb_mem {n : Int} {ts : List Tie} (h : TiesIn n ts) {p y : Int} : y ∈ nb ts p ↔ Adj ts p y := by
  unfold nb
  rw [List.mem_flatMap]
  constructor
  · rintro ⟨t, ht, hy⟩
    refine ⟨t, ht, ?_⟩
    by_cases h1 : t.1 = p
    · rw [if_pos h1, List.mem_singleton] at hy
      exact .inl ⟨h1, hy.symm⟩
    · rw [if_neg h1] at hy
      by_cases h2 : t.2.1 = p
      · rw [if_pos h2, List.mem_singleton] at hy
        exact .inr ⟨hy.symm, h2⟩
      · rw [if_neg h2] at hy
        cases hy
  · rintro ⟨t, ht, hy⟩
    refine ⟨t, ht, ?_⟩
    have := h t ht
    rcases hy with ⟨h1, h2⟩ | ⟨h1, h2⟩
    · rw [if_pos h1, h2]
      exact List.mem_singleton.mpr rfl
    · rw [if_neg (by omega), if_pos h2, h1]
      exact List.mem_singleton.mpr rfl
theorem nb_snoc (ts : List Tie) (t : Tie) (p : Int) : nb (ts ++ [t]) p = nb ts p ++ (if t.1 = p then [t.2.1] else if t.2.1 = p then [t.1] else []) := by
  unfold nb
  rw [List.flatMap_append, List.flatMap_singleton]
theorem nb_len (ts : List Tie) (p : Int) : (nb ts p).length ≤ ts.length := by
  induction ts with
  | nil => exact Nat.le_refl _
  | cons t r ih =>
    unfold nb at ih ⊢
    rw [List.flatMap_cons, List.length_append, List.length_cons]
    have : (if t.1 = p then [t.2.1] else if t.2.1 = p then [t.1] else []).length ≤ 1 := by
      split
      · exact Nat.le_refl _
      · split
        · exact Nat.le_refl _
        · exact Nat.zero_le _
    omega
theorem rngI_lt (lo : Int) (n : Nat) : (rngI lo n).Pairwise (· < ·) := by
  unfold rngI
  rw [List.pairwise_map]
  exact List.pairwise_lt_range.imp fun h => by omega
theorem sorted_eq : ∀ {l m : List Int}, l.Pairwise (· < ·) → m.Pairwise (· < ·) → (∀ x, x ∈ l ↔ x ∈ m) → l = m
  | [], [], _, _, _ => rfl
  | [], b :: m, _, _, h => by cases (h b).mpr List.mem_cons_self
  | a :: l, [], _, _, h => by cases (h a).mp List.mem_cons_self
  | a :: l, b :: m, h1, h2, h => by
    rw [List.pairwise_cons] at h1 h2
    have e : a = b := by
      rcases List.mem_cons.mp ((h a).mp List.mem_cons_self) with e | e
      · exact e
      · rcases List.mem_cons.mp ((h b).mpr List.mem_cons_self) with e' | e'
        · exact e'.symm
        · have := h2.1 a e
          have := h1.1 b e'
          omega
    subst e
    congr 1
    refine sorted_eq h1.2 h2.2 fun x => ?_
    constructor
    · intro hx
      rcases List.mem_cons.mp ((h x).mp (List.mem_cons_of_mem _ hx)) with e | e
      · subst e
        exact absurd (h1.1 x hx) (by omega)
      · exact e
    · intro hx
      rcases List.mem_cons.mp ((h x).mpr (List.mem_cons_of_mem _ hx)) with e | e
      · subst e
        exact absurd (h2.1 x hx) (by omega)
      · exact e
theorem sorted_of {ys ks : List Int} (h : ys.Perm ks) (hs : ys.Pairwise (· ≤ ·)) (hn : ks.Nodup) : ys.Pairwise (· < ·) := by
  have h1 : ys.Nodup := h.nodup_iff.mpr hn
  exact (hs.and h1).imp fun ⟨a, b⟩ => by omega
/-- the places that hang on one -/
noncomputable def comp (n : Int) (ts : List Tie) (p : Int) : List Int := (rngI 0 n.toNat).filter fun x => @decide (Conn ts p x) (Classical.propDecidable _)
theorem comp_mem {n : Int} {ts : List Tie} {p x : Int} : x ∈ comp n ts p ↔ (0 ≤ x ∧ x < n) ∧ Conn ts p x := by
  unfold comp
  rw [List.mem_filter, rngI_mem, @decide_eq_true_iff _ (Classical.propDecidable _)]
  constructor
  · rintro ⟨h1, h2⟩
    exact ⟨by omega, h2⟩
  · rintro ⟨h1, h2⟩
    exact ⟨by omega, h2⟩
theorem comp_lt (n : Int) (ts : List Tie) (p : Int) : (comp n ts p).Pairwise (· < ·) := (rngI_lt _ _).filter _
theorem comp_len (n : Int) (ts : List Tie) (p : Int) : (comp n ts p).length ≤ n.toNat := Nat.le_trans (List.length_filter_le _ _) (by rw [rngI_len]; exact Nat.le_refl _)
/-- how many unlike numbers below n there can be -/
theorem few_in : ∀ {n : Nat} {ks : List Int}, ks.Nodup → (∀ k ∈ ks, 0 ≤ k ∧ k < (n : Int)) → ks.length ≤ n
  | 0, [], _, _ => Nat.le_refl _
  | 0, k :: _, _, h => by
    have := h k List.mem_cons_self
    omega
  | n + 1, ks, h1, h2 => by
    have h3 := few_in (n := n) (ks := ks.erase (n : Int)) (h1.erase _) fun k hk => by
      have h4 := (h1.mem_erase_iff).mp hk
      have h5 := h2 k h4.2
      have h6 := h4.1
      omega
    rw [List.length_erase] at h3
    split at h3 <;> omega
/-- what a walk over all ties keeps for the places: the least of those that hang together -/
structure Firsts (n : Int) (ts : List Tie) (fs : List Int) : Prop where
  len : fs.length = n.toNat
  conn : ∀ (i : Nat) (x : Int), fs[i]? = some x → Conn ts (i : Int) x ∧ 0 ≤ x ∧ x ≤ (i : Int)
def Least (ts : List Tie) (p : Int) : Prop := ∀ y, 0 ≤ y → Conn ts p y → p ≤ y
noncomputable def leastB (ts : List Tie) (p : Int) : Bool := @decide (Least ts p) (Classical.propDecidable _)
theorem leastB_iff {ts : List Tie} {p : Int} : leastB ts p = true ↔ Least ts p := @decide_eq_true_iff _ (Classical.propDecidable _)
noncomputable def parts (n : Int) (ts : List Tie) : List (List Int) := ((rngI 0 n.toNat).filter (leastB ts)).map (comp n ts)
/-- the ties that are not in a cut -/
def outside (ts : List Tie) (ks : List (Int × Int)) : List Tie := ts.filter fun t => !decide ((t.1, t.2.1) ∈ ks)
theorem out_nil (ts : List Tie) : outside ts [] = ts := List.filter_eq_self.mpr fun t _ => by simp
theorem out_in {n : Int} {ts : List Tie} (h : TiesIn n ts) (ks : List (Int × Int)) : TiesIn n (outside ts ks) := fun t ht => h t (List.mem_filter.mp ht).1
theorem out_web {n : Int} {ts : List Tie} (h : WebOk n ts) (ks : List (Int × Int)) : WebOk n (outside ts ks) := ⟨h.pos, fun t ht => h.tie t (List.mem_filter.mp ht).1, h.rise.filter _, Nat.le_trans (List.length_filter_le _ _) h.len⟩
theorem out_mem {ts : List Tie} {ks : List (Int × Int)} {i : Nat} {t u : Tie} (h : ts[i]? = some t) : u ∈ outside (ts.take (i + 1)) ks ↔ u ∈ outside (ts.take i) ks ∨ (u = t ∧ ¬ (t.1, t.2.1) ∈ ks) := by
  unfold outside
  rw [List.take_add_one, h, Option.toList_some, List.filter_append, List.mem_append]
  by_cases q : (t.1, t.2.1) ∈ ks
  · simp [q]
  · simp [q]
end Pw

/-! ## PwNear -/
namespace Pw
open PySem L2 Evl
section
variable {K : PySem.W.Frag} {σ : L2.St} {B H : Hp} {S : List Addr} {te ta tb tl : TE} {tt : TT} {tA : TA} {wi : TI} {g : TG} {tu : TS} {D : Ends} {ds : List PyData} {d : PyData}
theorem g_tie {j1 j2 j3 : Nat} {t : Tie} {x : V} {Q : L2.St → Hp → Prop} (hx : Dq K B x (tieD t)) (e : Ex B H) (q : Q (((σ.set j1 (some (.int t.1))).set j2 (some (.int t.2.1))).set j3 (some (.int t.2.2))) H) :
    gTup K 3 (gCons (gName j1) (gCons (gName j2) (gCons (gName j3) gNil))) x σ H Q := by
  cases hx with
  | tup hs hd =>
  cases hd with
  | cons h1 t =>
  cases t with
  | cons h2 t =>
  cases t with
  | cons h3 t =>
  cases t
  cases h1
  cases h2
  cases h3
  exact ⟨_, _, rfl, st_of (e _ _ hs), rfl, _, _, rfl, _, _, rfl, _, _, rfl, rfl, q⟩
theorem st_set {i : Nat} (h : te σ H fun v H' => D.nx (σ.set i (some v)) H') : tAsg te (gName i) D σ H := h
theorem dqAll_of : ∀ {vs : List V} {ds : List PyData}, vs.length = ds.length → (∀ (j : Nat) v d, vs[j]? = some v → ds[j]? = some d → Dq K B v d) → DqAll K B vs ds
  | [], [], _, _ => .nil
  | [], _ :: _, h, _ => by cases h
  | _ :: _, [], h, _ => by cases h
  | v :: vs, d :: ds, h, f => .cons (f 0 v d rfl rfl) (dqAll_of (Nat.succ.inj h) fun j v d h1 h2 => f (j + 1) v d h1 h2)
/-- [[] for _ in ..]: lists of their own -/
theorem lists_lc {l : List PyData} {vs : List Nat} {j : Nat} (hk : WkD K wi σ B l) (hl : l.length ≤ 40000) (hv : ∀ x, wipe ((wipe σ vs).set j (some x)) vs = wipe σ vs) (w : Wd S B H) {Q : VK}
    (q : ∀ L ps H', Ex H H' → H' L = some (.lst (ps.map V.ref)) → ps.length = l.length → (L :: ps).Nodup → (∀ p ∈ ps, H' p = some (.lst [])) → (∀ p ∈ L :: ps, H p = none) → Q (.ref L) H') :
    tLc wi (gName j) tYes (tLst tNil) vs σ H Q := by
  refine hk S H w _ fun J B1 H1 e1 eB1 w1 hgo hstop hyld Dl hD => ?_
  refine ⟨fun i m H' => m = l.length - i ∧ i ≤ l.length ∧ Ex H1 H' ∧ ∃ B' ps, Ex B1 B' ∧ Wd (Dl :: S) B' H' ∧ H' Dl = some (.lst (ps.map V.ref)) ∧ ps.length = i ∧ (Dl :: ps).Nodup ∧ (∀ p ∈ ps, H' p = some (.lst [])) ∧ ∀ p ∈ ps, H1 p = none,
    ⟨l.length, by omega, Nat.zero_le _, Ex.new hD, B1, [], Ex.refl _, w1.own hD, upd_same, rfl, List.nodup_cons.mpr ⟨(fun h => by cases h), List.nodup_nil⟩, (fun p h => by cases h), (fun p h => by cases h)⟩, ?_⟩
  rintro i m H2 ⟨rfl, hi, eH, B2, ps, eB2, w2, hA, hpl, hnd, hps, hfr⟩
  by_cases hlt : i < l.length
  · refine .inr ⟨hgo i H2 (eB2.trans w2.ex) hlt, fun H' => Ex H1 H' ∧ ∃ B' ps, Ex B1 B' ∧ Wd (Dl :: S) B' H' ∧ H' Dl = some (.lst (ps.map V.ref)) ∧ ps.length = i + 1 ∧ (Dl :: ps).Nodup ∧ (∀ p ∈ ps, H' p = some (.lst [])) ∧ ∀ p ∈ ps, H1 p = none,
      fun H' h => ⟨l.length - (i + 1), by omega, rfl, by omega, h⟩, fun x H3 hy => ?_⟩
    obtain ⟨B3, e3, eB3, w3, d, hd1, hd2⟩ := hyld i (Dl :: S) B2 H2 x H3 eB2 w2 hlt hy
    refine ⟨hv _, ?_⟩
    refine ⟨by decide, fun p hp => ?_⟩
    have hA3 := e3 _ _ hA
    have npD : p ≠ Dl := (ne_of_none hA3 hp).symm
    have hp1 : H1 p = none := fresh_back (eH.trans e3) hp
    have npp : p ∉ ps := fun z => by
      rw [e3 _ _ (hps p z)] at hp
      cases hp
    refine ⟨ps.map V.ref, (by rw [upd_ne npD.symm]; exact hA3), sz_lt (by rw [List.length_map]; omega), ?_, B3, ps ++ [p], eB2.trans eB3, ((w3.ext (Ex.new hp))).put List.mem_cons_self, ?_, by rw [List.length_append, hpl]; rfl, ?_, ?_, ?_⟩
    · exact ((eH.trans e3).trans (Ex.new hp)).mut hD
    · rw [List.map_append]
      exact upd_same
    · rw [List.nodup_cons] at hnd ⊢
      refine ⟨fun z => ?_, ?_⟩
      · rcases List.mem_append.mp z with z | z
        · exact hnd.1 z
        · exact npD (List.mem_singleton.mp z).symm
      · rw [List.nodup_append]
        refine ⟨hnd.2, List.nodup_cons.mpr ⟨fun h => (by cases h), List.nodup_nil⟩, fun a ha b hb => ?_⟩
        rw [List.mem_singleton.mp hb]
        exact fun z => npp (z ▸ ha)
    · intro q' hq'
      rw [List.nodup_cons] at hnd
      rcases List.mem_append.mp hq' with z | z
      · have q1 : q' ≠ Dl := fun y => hnd.1 (by rw [← y]; exact z)
        have q2 : q' ≠ p := fun y => npp (by rw [← y]; exact z)
        rw [upd_ne q1, upd_ne q2]
        exact e3 _ _ (hps q' z)
      · rw [List.mem_singleton.mp z, upd_ne npD]
        exact upd_same
    · intro q' hq'
      rcases List.mem_append.mp hq' with z | z
      · exact hfr q' z
      · rw [List.mem_singleton.mp z]
        exact hp1
  · have ei : i = l.length := by omega
    refine .inl ⟨hstop _ H2 (eB2.trans w2.ex) (by omega), q _ ps _ (e1.trans eH) hA (by omega) hnd hps fun p hp => ?_⟩
    rcases List.mem_cons.mp hp with rfl | hp
    · exact fresh_back e1 hD
    · exact fresh_back e1 (hfr p hp)
theorem nodup_at {ps : List Addr} (h : ps.Nodup) {i j : Nat} {p : Addr} (hi : ps[i]? = some p) (hj : ps[j]? = some p) : i = j := by
  obtain ⟨a, b⟩ := List.getElem?_eq_some_iff.mp hi
  obtain ⟨c, d⟩ := List.getElem?_eq_some_iff.mp hj
  have h2 := List.pairwise_iff_getElem.mp h
  rcases Nat.lt_trichotomy i j with q | q | q
  · exact absurd (b.trans d.symm) (h2 i j a c q)
  · exact q
  · exact absurd (d.trans b.symm) (h2 j i c a q)
/-- found[a].append(b) -/
theorem st_appAt {i ja jb : Nat} {L p : Addr} {ps : List Addr} {ys : List V} {k : Int} {v : V} (hi : σ[i]? = some (some (.ref L))) (hja : σ[ja]? = some (some (.int k))) (hjb : σ[jb]? = some (some v)) (hL : H L = some (.lst (ps.map V.ref)))
    (hat : atI (ps.map V.ref) k = some (.ref p)) (hp : H p = some (.lst ys)) (hl : ys.length ≤ 40000) (q : D.nx σ (upd H p (.lst (ys ++ [v])))) : tDrop (tBM K "list" rAppend (tOp (rIxL K) (tVar i) (tVar ja)) (tCons (tVar jb) tNil)) D σ H :=
  ⟨_, hi, _, hja, L, _, k, _, rfl, rfl, sq_of hL, hat, .inl ⟨rfl, _, sq_of hp⟩, _, hjb, p, ys, v, rfl, rfl, hp, sz_lt (by omega), q⟩
theorem atI_at {α : Type} {xs : List α} {k : Int} {x : α} (h0 : 0 ≤ k) (h : xs[k.toNat]? = some x) : atI xs k = some x := by
  have e : k = ((k.toNat : Nat) : Int) := by omega
  rw [e]
  exact atI_nat h
/-- worlds with more that is one's own -/
theorem Wd.owns {ps : List Addr} {H' : Hp} (w : Wd S B H) (e : Ex H H') (hn : ∀ p ∈ ps, H p = none) (hd : ∀ p ∈ ps, ∃ o, H' p = some o) : Wd (ps ++ S) B H' := by
  refine ⟨w.ex.trans e, fun s m => ?_, fun s m => ?_⟩
  · rcases List.mem_append.mp m with m | m
    · exact w.fresh (hn s m)
    · exact w.no s m
  · rcases List.mem_append.mp m with m | m
    · exact hd s m
    · exact (w.ext e).at_ s m
end
def nearD (n : Int) (ts : List Tie) : PyData := .list ((rngI 0 n.toNat).map fun p => .list ((nb ts p).map .int))
end Pw

/-! ## PwWalk -/
namespace Pw
open PySem L2 Evl
theorem isSome_iff {κ : Type} [DecidableEq κ] (k : κ) : ∀ kvs : List (κ × V), (valV kvs k).isSome = true ↔ k ∈ kvs.map (·.1)
  | [] => by simp [valV_nil]
  | p :: r => by
    by_cases h : p.1 = k
    · rw [valV_pos h]
      simp [h]
    · rw [valV_neg h, isSome_iff k r, List.map_cons, List.mem_cons]
      exact ⟨.inr, fun z => z.elim (fun e => absurd e.symm h) id⟩
theorem putK_new {κ : Type} [DecidableEq κ] {kvs : List (κ × V)} {k : κ} {v : V} (h : ¬ k ∈ kvs.map (·.1)) : (putK kvs k v).map (·.1) = kvs.map (·.1) ++ [k] := by
  unfold putK
  rw [if_neg, List.map_append]
  · rfl
  · intro q
    obtain ⟨x, hx, e⟩ := List.any_eq_true.mp q
    exact h (List.mem_map.mpr ⟨x, hx, of_decide_eq_true e⟩)
/-- a walk from place to place, on its way -/
structure Walk (n : Int) (ts : List Tie) (p : Int) (ks ws : List Int) : Prop where
  nodup : ks.Nodup
  inn : ∀ k ∈ ks, 0 ≤ k ∧ k < n
  conn : ∀ k ∈ ks, Conn ts p k
  start : p ∈ ks
  sub : ∀ x ∈ ws, x ∈ ks
  closed : ∀ x ∈ ks, x ∉ ws → ∀ y, Adj ts x y → y ∈ ks
/-- one place being looked at -/
structure WalkIn (n : Int) (ts : List Tie) (p x : Int) (done : List Int) (ks ws : List Int) : Prop where
  nodup : ks.Nodup
  inn : ∀ k ∈ ks, 0 ≤ k ∧ k < n
  conn : ∀ k ∈ ks, Conn ts p k
  start : p ∈ ks
  sub : ∀ x ∈ ws, x ∈ ks
  here : x ∈ ks
  closed : ∀ z ∈ ks, z ∉ ws → z ≠ x → ∀ y, Adj ts z y → y ∈ ks
  seen : ∀ y ∈ done, y ∈ ks
theorem Walk.pop {n : Int} {ts : List Tie} {p x : Int} {ks ws : List Int} (h : Walk n ts p ks (ws ++ [x])) : WalkIn n ts p x [] ks ws :=
  ⟨h.nodup, h.inn, h.conn, h.start, fun y hy => h.sub y (List.mem_append_left _ hy), h.sub x (List.mem_append_right _ (List.mem_singleton.mpr rfl)), fun z hz hw hx => h.closed z hz fun m => (List.mem_append.mp m).elim hw fun e => hx (List.mem_singleton.mp e), fun y hy => by cases hy⟩
theorem WalkIn.old {n : Int} {ts : List Tie} {p x y : Int} {done ks ws : List Int} (h : WalkIn n ts p x done ks ws) (hy : y ∈ ks) : WalkIn n ts p x (done ++ [y]) ks ws :=
  ⟨h.nodup, h.inn, h.conn, h.start, h.sub, h.here, h.closed, fun z hz => (List.mem_append.mp hz).elim (h.seen z) fun e => List.mem_singleton.mp e ▸ hy⟩
theorem WalkIn.new {n : Int} {ts : List Tie} {p x y : Int} {done ks ws : List Int} (h : WalkIn n ts p x done ks ws) (hi : TiesIn n ts) (ha : Adj ts x y) (hy : ¬ y ∈ ks) : WalkIn n ts p x (done ++ [y]) (ks ++ [y]) (ws ++ [y]) := by
  refine ⟨?_, fun k hk => ?_, fun k hk => ?_, List.mem_append_left _ h.start, fun z hz => ?_, List.mem_append_left _ h.here, fun z hz hw hx u hu => ?_, fun z hz => ?_⟩
  · rw [List.nodup_append]
    exact ⟨h.nodup, List.nodup_cons.mpr ⟨fun q => (by cases q), List.nodup_nil⟩, fun a ha b hb e => hy (by rw [← List.mem_singleton.mp hb, ← e]; exact ha)⟩
  · rcases List.mem_append.mp hk with hk | hk
    · exact h.inn k hk
    · rw [List.mem_singleton.mp hk]
      exact (Conn.tail .refl ha).range hi (h.inn x h.here)
  · rcases List.mem_append.mp hk with hk | hk
    · exact h.conn k hk
    · rw [List.mem_singleton.mp hk]
      exact (h.conn x h.here).tail ha
  · rcases List.mem_append.mp hz with hz | hz
    · exact List.mem_append_left _ (h.sub z hz)
    · exact List.mem_append_right _ hz
  · rcases List.mem_append.mp hz with hz | hz
    · exact List.mem_append_left _ (h.closed z hz (fun m => hw (List.mem_append_left _ m)) hx u hu)
    · exact absurd (List.mem_append_right _ hz) hw
  · rcases List.mem_append.mp hz with hz | hz
    · exact List.mem_append_left _ (h.seen z hz)
    · exact List.mem_append_right _ hz
theorem WalkIn.end {n : Int} {ts : List Tie} {p x : Int} {ks ws : List Int} (h : WalkIn n ts p x (nb ts x) ks ws) (hi : TiesIn n ts) : Walk n ts p ks ws :=
  ⟨h.nodup, h.inn, h.conn, h.start, h.sub, fun z hz hw y hy => by
    by_cases e : z = x
    · subst e
      exact h.seen y ((nb_mem hi).mpr hy)
    · exact h.closed z hz hw e y hy⟩
theorem Walk.comp {n : Int} {ts : List Tie} {p : Int} {ks ys : List Int} (h : Walk n ts p ks []) (hp : ys.Perm ks) (hs : ys.Pairwise (· ≤ ·)) : ys = comp n ts p := by
  refine sorted_eq (sorted_of hp hs h.nodup) (comp_lt n ts p) fun x => ?_
  rw [hp.mem_iff, comp_mem]
  constructor
  · exact fun hx => ⟨h.inn x hx, h.conn x hx⟩
  · rintro ⟨hr, c⟩
    clear hr
    induction c with
    | refl => exact h.start
    | tail c a ih => exact h.closed _ ih (fun m => by cases m) _ a
section
variable {K : PySem.W.Frag} {σ : L2.St} {B H : Hp} {S : List Addr} {te ta tb tl : TE} {D : Ends}
/-- dict([(k, ..), ..]): a dict of its own -/
theorem dset_new {ks : List Int} {f : Int → PyData} (h : EvD K ta σ B (.list (ks.map fun k => .tuple [.int k, f k]))) (w : Wd S B H) {Q : VK}
    (q : ∀ o H' more, Ex H H' → H o = none → H' o = some (.dK more) → more.length ≤ ks.length → (∀ k : Int, (valV more (.inl k)).isSome = decide (k ∈ ks)) → Q (.ref o) H') : tCB (rDictP K) (tCons ta tNil) σ H Q :=
  (ea_cons h ea_nil).bind w fun vs B1 H1 e1 eB1 w1 rs => by
    cases rs with
    | cons r1 r2 =>
    cases r2
    cases r1 with
    | @lst a xs _ hs hd =>
    have hl := DqAll.length hd
    obtain ⟨ps, kvs, rfl, hp, hk⟩ := pairs_ints hd
    refine ⟨a, ps, kvs, rfl, ex_l w1.ex hs, paired_mono w1.ex hp, fun p hp => q p _ _ (e1.trans (Ex.new hp)) (fresh_back e1 hp) upd_same ?_ fun k => ?_⟩
    · have h1 := length_mergeK kvs []
      have h2 := congrArg List.length hk
      rw [List.length_map, List.length_map] at h2
      rw [List.length_nil] at h1
      omega
    · unfold mergeK
      rw [merge_some, hk]
      simp [valV_nil]
theorem atI_last {α : Type} (xs : List α) (x : α) : atI (xs ++ [x]) (-1) = some x := by
  have h : ixN (xs ++ [x]).length (-1) = some xs.length := by
    unfold ixN
    rw [if_neg (by decide), if_pos (by rw [List.length_append]; show -((xs.length + 1 : Nat) : Int) ≤ -1; omega), List.length_append]
    show some ((-1 : Int) + ((xs.length + 1 : Nat) : Int)).toNat = _
    congr 1
    omega
  unfold atI
  rw [h]
  simp
theorem rngI_succ (n : Nat) : rngI 0 (n + 1) = rngI 0 n ++ [(n : Int)] := by
  unfold rngI
  rw [List.range_succ, List.map_append]
  simp
theorem mergeK_iff (k : Key) : ∀ (kvs acc : List (Key × V)), (valV (mergeK acc kvs) k).isSome = true ↔ ((valV acc k).isSome = true ∨ k ∈ kvs.map fun p => p.1)
  | [], acc => by
    show (valV acc k).isSome = true ↔ _
    simp
  | p :: r, acc => by
    have ih := mergeK_iff k r (putK acc p.1 p.2)
    show (valV (mergeK (putK acc p.1 p.2) r) k).isSome = true ↔ _
    rw [ih, valV_put, List.map_cons, List.mem_cons]
    by_cases h : k = p.1
    · rw [if_pos h]
      simp [h]
    · rw [if_neg h]
      simp [h]
noncomputable def partsTo (n : Int) (ts : List Tie) (i : Nat) : List (List Int) := ((rngI 0 i).filter (leastB ts)).map (comp n ts)
theorem partsTo_succ (n : Int) (ts : List Tie) (i : Nat) : partsTo n ts (i + 1) = if leastB ts (i : Int) = true then partsTo n ts i ++ [comp n ts (i : Int)] else partsTo n ts i := by
  unfold partsTo
  rw [rngI_succ, List.filter_append, List.map_append]
  by_cases h : leastB ts (i : Int) = true
  · rw [if_pos h, List.filter_cons, if_pos h]
    rfl
  · rw [if_neg h, List.filter_cons, if_neg h]
    simp
theorem partsTo_len (n : Int) (ts : List Tie) (i : Nat) : (partsTo n ts i).length ≤ i := by
  unfold partsTo
  rw [List.length_map]
  exact Nat.le_trans (List.length_filter_le _ _) (by rw [rngI_len]; exact Nat.le_refl _)
/-- a place that none ahead hangs on -/
theorem least_new {n : Int} {ts : List Tie} (h : TiesIn n ts) {i : Int} (h0 : 0 ≤ i) (h1 : i < n) : Least ts i ↔ ¬ ∃ x, (0 ≤ x ∧ x < i) ∧ Conn ts x i := by
  constructor
  · rintro h2 ⟨x, ⟨h3, h4⟩, c⟩
    have := h2 x h3 c.symm
    omega
  · intro h2 y hy c
    by_cases q : i ≤ y
    · exact q
    · exact absurd ⟨y, ⟨hy, by omega⟩, c.symm⟩ h2
end
end Pw

/-! ## PwFirst -/
namespace Pw
open PySem L2 Evl
/-- numbers for the places, each of a place that it hangs on -/
structure Fok (n : Int) (us : List Tie) (fs : List Int) : Prop where
  len : fs.length = n.toNat
  at_ : ∀ (j : Nat) (x : Int), fs[j]? = some x → Conn us (j : Int) x ∧ 0 ≤ x ∧ x ≤ (j : Int)
theorem Fok.init (n : Int) (us : List Tie) : Fok n us (rngI 0 n.toNat) := ⟨rngI_len, fun j x h => by
  have hj : j < n.toNat := by
    have := (List.getElem?_eq_some_iff.mp h).1
    rw [rngI_len] at this
    exact this
  rw [rngI_get hj] at h
  have e : x = (j : Int) := by
    have := Option.some.inj h
    omega
  subst e
  exact ⟨.refl, by omega, by omega⟩⟩
theorem Fok.set {n : Int} {us : List Tie} {fs : List Int} {j : Nat} {x : Int} (h : Fok n us fs) (c : Conn us (j : Int) x) (h0 : 0 ≤ x) (h1 : x ≤ (j : Int)) : Fok n us (fs.set j x) := ⟨by rw [List.length_set]; exact h.len, fun i y hy => by
  rw [List.getElem?_set] at hy
  by_cases e : j = i
  · subst e
    rw [if_pos rfl] at hy
    split at hy
    · cases hy
      exact ⟨c, h0, h1⟩
    · cases hy
  · rw [if_neg e] at hy
    exact h.at_ i y hy⟩
theorem sum_set : ∀ {fs : List Int} {j : Nat} {x y : Int}, fs[j]? = some y → (fs.set j x).sum = fs.sum - y + x
  | [], _, _, _, h => by simp at h
  | z :: r, 0, x, y, h => by
    cases h
    rw [List.set_cons_zero, List.sum_cons, List.sum_cons]
    omega
  | z :: r, j + 1, x, y, h => by
    rw [List.set_cons_succ, List.sum_cons, List.sum_cons, sum_set (fs := r) h]
    omega
theorem sum_pos : ∀ {fs : List Int}, (∀ x ∈ fs, 0 ≤ x) → 0 ≤ fs.sum
  | [], _ => Int.le_refl _
  | z :: r, h => by
    rw [List.sum_cons]
    have := h z List.mem_cons_self
    have := sum_pos fun x hx => h x (List.mem_cons_of_mem z hx)
    omega
theorem Fok.sum {n : Int} {us : List Tie} {fs : List Int} (h : Fok n us fs) : 0 ≤ fs.sum := sum_pos fun x hx => by
  obtain ⟨j, hj⟩ := List.getElem?_of_mem hx
  exact (h.at_ j x hj).2.1
/-- the least place that a place hangs on -/
noncomputable def firstOf (n : Int) (us : List Tie) (x : Int) : Int := (comp n us x).head?.getD 0
noncomputable def firstsL (n : Int) (us : List Tie) : List Int := (rngI 0 n.toNat).map (firstOf n us)
theorem firstOf_eq {n : Int} {us : List Tie} {x z : Int} (h1 : z ∈ comp n us x) (h2 : ∀ y ∈ comp n us x, z ≤ y) : firstOf n us x = z := by
  unfold firstOf
  have h3 := comp_lt n us x
  match hc : comp n us x with
  | [] => rw [hc] at h1; cases h1
  | c :: r =>
    rw [hc] at h1 h2 h3
    rw [List.pairwise_cons] at h3
    show c = z
    rcases List.mem_cons.mp h1 with e | e
    · exact e.symm
    · have := h3.1 z e
      have := h2 c List.mem_cons_self
      omega
theorem firstOf_spec {n : Int} {us : List Tie} (hi : TiesIn n us) {x : Int} (hx : 0 ≤ x ∧ x < n) : firstOf n us x ∈ comp n us x ∧ ∀ y ∈ comp n us x, firstOf n us x ≤ y := by
  unfold firstOf
  have h1 : x ∈ comp n us x := comp_mem.mpr ⟨hx, .refl⟩
  have h3 := comp_lt n us x
  match hc : comp n us x with
  | [] => rw [hc] at h1; cases h1
  | c :: r =>
    rw [hc] at h3
    rw [List.pairwise_cons] at h3
    refine ⟨List.mem_cons_self, fun y hy => ?_⟩
    show c ≤ y
    rcases List.mem_cons.mp hy with e | e
    · rw [e]; exact Int.le_refl _
    · have := h3.1 y e
      omega
def agree (fs : List Int) (t : Tie) : Prop := fs[t.1.toNat]? = fs[t.2.1.toNat]?
theorem Fok.same {n : Int} {us : List Tie} {fs : List Int} (hi : TiesIn n us) (ha : ∀ t ∈ us, agree fs t) {x y : Int} (c : Conn us x y) (hx : 0 ≤ x ∧ x < n) : fs[x.toNat]? = fs[y.toNat]? := by
  induction c with
  | refl => rfl
  | tail _ a ih =>
    obtain ⟨t, ht, e⟩ := a
    have h := ha t ht
    unfold agree at h
    rcases e with ⟨rfl, rfl⟩ | ⟨rfl, rfl⟩
    · rw [ih, h]
    · rw [ih, h]
theorem Fok.done {n : Int} {us : List Tie} {fs : List Int} (h : Fok n us fs) (hi : TiesIn n us) (ha : ∀ t ∈ us, agree fs t) : fs = firstsL n us := by
  refine List.ext_getElem? fun j => ?_
  unfold firstsL
  by_cases hj : j < n.toNat
  · have hjf : fs[j]? = some (fs[j]'(by rw [h.len]; exact hj)) := List.getElem?_eq_getElem _
    rw [List.getElem?_map, rngI_get hj, hjf]
    show some _ = some _
    congr 1
    rw [show (0 : Int) + (j : Int) = (j : Int) by omega]
    obtain ⟨c, h0, h1⟩ := h.at_ j _ hjf
    refine (firstOf_eq (comp_mem.mpr ⟨c.range hi ⟨by omega, by omega⟩, c⟩) fun y hy => ?_).symm
    obtain ⟨hyr, cy⟩ := comp_mem.mp hy
    have e := Fok.same hi ha cy ⟨by omega, by omega⟩
    rw [show ((j : Int)).toNat = j by omega, hjf] at e
    have := (h.at_ y.toNat _ e.symm).2.2
    omega
  · rw [List.getElem?_eq_none (by rw [h.len]; omega), List.getElem?_eq_none (by rw [List.length_map, rngI_len]; omega)]
theorem firstOf_least {n : Int} {us : List Tie} (hi : TiesIn n us) {x : Int} (hx : 0 ≤ x ∧ x < n) : firstOf n us x = x ↔ Least us x := by
  have h := firstOf_spec hi hx
  constructor
  · intro e y hy c
    rw [e] at h
    exact h.2 y (comp_mem.mpr ⟨c.range hi hx, c⟩)
  · intro hl
    exact firstOf_eq (comp_mem.mpr ⟨hx, .refl⟩) fun y hy => hl y (comp_mem.mp hy).1.1 (comp_mem.mp hy).2
theorem firstOf_conn {n : Int} {us : List Tie} (hi : TiesIn n us) {x y : Int} (hx : 0 ≤ x ∧ x < n) (hy : 0 ≤ y ∧ y < n) : firstOf n us x = firstOf n us y ↔ Conn us x y := by
  have h1 := firstOf_spec hi hx
  have h2 := firstOf_spec hi hy
  constructor
  · intro e
    have a := (comp_mem.mp h1.1).2
    have b := (comp_mem.mp h2.1).2
    rw [← e] at b
    exact a.trans b.symm
  · intro c
    exact firstOf_eq (comp_mem.mpr ⟨(comp_mem.mp h2.1).1, c.trans (comp_mem.mp h2.1).2⟩) fun z hz => h2.2 z (comp_mem.mpr ⟨(comp_mem.mp hz).1, c.symm.trans (comp_mem.mp hz).2⟩)
end Pw

/-! ## PwCat -/
namespace Pw
open PySem L2 Evl
/-- a list that the program has made -/
def DL (K : PySem.W.Frag) (ds : List PyData) (v : V) (B : Hp) : Prop := ∃ a xs, v = .ref a ∧ B a = some (.lst xs) ∧ DqAll K B xs ds
theorem stays_DL {K : PySem.W.Frag} {ds : List PyData} : Stays (DL K ds) := fun v B B' e ⟨a, xs, h1, h2, h3⟩ => ⟨a, xs, h1, e _ _ h2, DqAll.mono e h3⟩
theorem DL.dq {K : PySem.W.Frag} {ds : List PyData} {v : V} {B : Hp} (h : DL K ds v B) : Dq K B v (.list ds) := by
  obtain ⟨a, xs, rfl, h2, h3⟩ := h
  exact .lst (sq_of h2) h3
theorem DqAll.app {K : PySem.W.Frag} {B : Hp} : ∀ {vs ws : List V} {ds es : List PyData}, DqAll K B vs ds → DqAll K B ws es → DqAll K B (vs ++ ws) (ds ++ es)
  | _, _, _, _, .nil, h => h
  | _, _, _, _, .cons a t, h => .cons a (DqAll.app t h)
section
variable {K : PySem.W.Frag} {σ : L2.St} {B H H' : Hp} {S : List Addr} {b : Addr} {k m c : Nat} {te ta tb tl : TE} {tt : TT} {tA : TA} {wi : TI} {g : TG} {R R' : V → Hp → Prop} {ds es : List PyData} {tu : TS} {D : Ends}
theorem ev_lstL (h : EvAD K tA σ B ds) (hl : ds.length ≤ 100000) : EvR (tLst tA) σ B (DL K ds) := evR_of (fun S H w Q q => h.bind w fun vs B1 H1 e1 eB1 w1 rs =>
  ⟨sz_of (by rw [DqAll.length rs]; exact hl), fun p hp => q (.ref p) _ _ (e1.trans (Ex.new hp)) (eB1.trans (w1.newE (o := .lst vs) hp)) (w1.new hp) ⟨p, vs, rfl, upd_same, DqAll.mono (w1.newE hp) rs⟩⟩) stays_DL
theorem ev_catL (ha : EvR ta σ B (DL K ds)) (hb : EvR tb σ B (DL K es)) (hl : ds.length + es.length ≤ 100000) : EvR (tOp rCat ta tb) σ B (DL K (ds ++ es)) := evR_of (fun S H w Q q => ha.bind w fun x B1 H1 e1 eB1 w1 ⟨a1, xs, ex, h1, h1d⟩ => (hb.mono eB1).bind w1 fun y B2 H2 e2 eB2 w2 ⟨a2, ys, ey, h2, h2d⟩ => by
  subst ex ey
  exact ⟨a1, a2, xs, ys, rfl, rfl, w2.ex _ _ (eB2 _ _ h1), w2.ex _ _ h2, (sz_of (by rw [DqAll.length h1d, DqAll.length h2d]; exact hl)), fun p hp => q (.ref p) _ _ ((e1.trans e2).trans (Ex.new hp)) ((eB1.trans eB2).trans (w2.newE (o := .lst (xs ++ ys)) hp)) (w2.new hp) ⟨p, xs ++ ys, rfl, upd_same, DqAll.app (DqAll.mono (eB2.trans (w2.newE hp)) h1d) (DqAll.mono (w2.newE hp) h2d)⟩⟩) stays_DL
abbrev DLP (K : PySem.W.Frag) (P : List PyData → Prop) (v : V) (B : Hp) : Prop := ∃ ds, P ds ∧ DL K ds v B
theorem stays_DLP {P : List PyData → Prop} : Stays (DLP K P) := fun v B B' e ⟨ds, h1, h2⟩ => ⟨ds, h1, stays_DL _ _ _ e h2⟩
theorem ex_catL {P1 P2 : List PyData → Prop} (ha : EvX S b k ta σ B (DLP K P1)) (hb : EvX S b m tb σ B (DLP K P2)) (hl : ∀ d1 d2, P1 d1 → P2 d2 → d1.length + d2.length ≤ 100000) : EvX S b (k + m) (tOp rCat ta tb) σ B (DLP K fun ds => ∃ d1 d2, ds = d1 ++ d2 ∧ P1 d1 ∧ P2 d2) :=
  evX_of (fun H c w hbS hB hlid Q q => ha.bind w hbS hB (by omega) fun x B1 H1 x1 eB1 w1 hB1 ⟨d1, p1, a1, xs, ex, h1, h1d⟩ => (hb.mono eB1).bind w1 hbS hB1 (by omega) fun y B2 H2 x2 eB2 w2 hB2 ⟨d2, p2, a2, ys, ey, h2, h2d⟩ => by
    subst ex ey
    exact ⟨a1, a2, xs, ys, rfl, rfl, w2.ex _ _ (eB2 _ _ h1), w2.ex _ _ h2, (sz_of (by rw [DqAll.length h1d, DqAll.length h2d]; exact hl _ _ p1 p2)), fun p hp => q (.ref p) _ _ ((x1.trans x2).trans (Xs.of (Ex.new hp))) ((eB1.trans eB2).trans (w2.newE (o := .lst (xs ++ ys)) hp)) (w2.new hp) ((hB2.ex (Ex.new hp)).mono (by omega)) ⟨d1 ++ d2, ⟨d1, d2, rfl, p1, p2⟩, p, xs ++ ys, rfl, upd_same, DqAll.app (DqAll.mono (eB2.trans (w2.newE hp)) h1d) (DqAll.mono (w2.newE hp) h2d)⟩⟩) stays_DLP
/-- [e for x in l if t], t or e drawing -/
theorem ex_lcL {α β : Type} (l : List α) (enc : α → PyData) (encY : β → PyData) (Pr : Nat → List β → Prop) {vs : List Nat} (hk : WkD K wi σ B (l.map enc)) (hl : l.length ≤ 40000) (h0 : Pr 0 []) (hlen : ∀ i ys, Pr i ys → ys.length ≤ i)
    (turn : ∀ i a ys, l[i]? = some a → Pr i ys → ∀ x S' B' H' c', Ex B B' → Wd S' B' H' → b ∈ S' → BoxAt H' b c' → c' + k ≤ lid → Dq K B' x (enc a) → ∀ (Qy : VK) (Qn : Hp → Prop),
      (∀ y yv B2 H2, Xs [b] H' H2 → BoxAt H2 b (c' + k) → Wd S' B2 H2 → Ex B' B2 → Dq K B2 yv (encY y) → Pr (i + 1) (ys ++ [y]) → Qy yv H2) → (Pr (i + 1) ys → ∀ B2 H2, Xs [b] H' H2 → BoxAt H2 b (c' + k) → Wd S' B2 H2 → Ex B' B2 → Qn H2) →
      g x (wipe σ vs) H' fun σ2 H2 => wipe σ2 vs = wipe σ vs ∧ tt σ2 H2 fun b H3 => if b = true then te σ2 H3 Qy else Qn H3) :
    EvX S b (l.length * k) (tLc wi g tt te vs) σ B (fun v B' => ∃ ys, Pr l.length ys ∧ DL K (ys.map encY) v B') := fun H c w hb hB hlid Q q => by
  refine hk S H w _ fun J B1 H1 e1 eB1 w1 hgo hstop hyld Dl hD => ?_
  rw [List.length_map] at hgo hstop hyld
  have nbD : Dl ≠ b := fun z => by
    obtain ⟨o, ho⟩ := (hB.ex e1).some
    rw [← z, hD] at ho
    cases ho
  refine ⟨fun i m H' => m = l.length - i ∧ i ≤ l.length ∧ Xs [b] H1 H' ∧ BoxAt H' b (c + i * k) ∧ ∃ B' acc ys, Ex B1 B' ∧ Wd (Dl :: S) B' H' ∧ H' Dl = some (.lst acc) ∧ Pr i ys ∧ DqAll K B' acc (ys.map encY),
    ⟨l.length, by omega, Nat.zero_le _, Xs.of (Ex.new hD), ((hB.ex e1).ex (Ex.new hD)).mono (by omega), B1, [], [], Ex.refl _, w1.own hD, upd_same, h0, .nil⟩, ?_⟩
  rintro i m H2 ⟨rfl, hi, xH, hB2, B2, acc, ys, eB2, w2, hA, hP, hd⟩
  by_cases hlt : i < l.length
  · obtain ⟨a, ha⟩ : ∃ a, l[i]? = some a := ⟨l[i], List.getElem?_eq_getElem hlt⟩
    have hmul : (i + 1) * k ≤ l.length * k := Nat.mul_le_mul_right k hlt
    have hsuc : (i + 1) * k = i * k + k := Nat.succ_mul i k
    refine .inr ⟨hgo i H2 (eB2.trans w2.ex) hlt, fun H' => Xs [b] H1 H' ∧ BoxAt H' b (c + (i + 1) * k) ∧ ∃ B' acc ys, Ex B1 B' ∧ Wd (Dl :: S) B' H' ∧ H' Dl = some (.lst acc) ∧ Pr (i + 1) ys ∧ DqAll K B' acc (ys.map encY), fun H' ⟨h1, h2, h3⟩ => ⟨l.length - (i + 1), by omega, rfl, by omega, h1, h2, h3⟩, fun x H3 hy => ?_⟩
    obtain ⟨B3, e3, eB3, w3, d, hd1, hd2⟩ := hyld i (Dl :: S) B2 H2 x H3 eB2 w2 hlt hy
    have ed : enc a = d := by
      rw [List.getElem?_map, ha] at hd1
      exact Option.some.inj hd1
    subst ed
    have hA3 := e3 _ _ hA
    have hlen2 : acc.length ≤ 40000 := by
      have := hlen _ _ hP
      rw [DqAll.length hd, List.length_map]
      omega
    refine turn i a ys ha hP x (Dl :: S) B3 H3 (c + i * k) (eB1.trans (eB2.trans eB3)) w3 (List.mem_cons_of_mem _ hb) (hB2.ex e3) (by omega) hd2 _ _ (fun y yv B4 H4 x4 hB4 w4 eB4 hy4 hP4 => ?_) (fun hP4 B4 H4 x4 hB4 w4 eB4 => ?_)
    · have hA4 := x4 _ _ (fun z => nbD (List.mem_singleton.mp z)) hA3
      refine ⟨acc, hA4, sz_lt (by omega), ?_, (hB4.mono (by omega)).upd nbD.symm, B4, acc ++ [yv], ys ++ [y], eB2.trans (eB3.trans eB4), w4.put List.mem_cons_self, upd_same, hP4, ?_⟩
      · intro p o hp ho
        rw [upd_ne (ne_of_none ho hD)]
        exact x4 p o hp (e3 _ _ (xH p o hp ho))
      · rw [List.map_append]
        exact DqAll.snoc (DqAll.mono (eB3.trans eB4) hd) hy4
    · exact ⟨xH.trans ((Xs.of e3).trans x4), hB4.mono (by omega), B4, acc, ys, eB2.trans (eB3.trans eB4), w4, x4 _ _ (fun z => nbD (List.mem_singleton.mp z)) hA3, hP4, DqAll.mono (eB3.trans eB4) hd⟩
  · have ei : i = l.length := by omega
    subst ei
    refine .inl ⟨hstop _ H2 (eB2.trans w2.ex) rfl, q _ _ ((Xs.of e1).trans xH) hB2 ?_⟩
    have w4 := w2.give hA (w1.nin hD)
    exact ⟨ys, hP, Dl, acc, rfl, (ex_mi w4.ex w4.no) _ _ upd_same, DqAll.mono (w2.giveE.trans (ex_mi w4.ex w4.no)) hd⟩

/-- a loop over a list of places, these being changed -/
theorem st_forRefs {i : Nat} {L : Addr} {ps : List Addr} (hv : σ[i]? = some (some (.ref L))) (hL : H L = some (.lst (ps.map V.ref))) (Iv : Nat → L2.St → Hp → Prop) (h0 : Iv 0 σ H) (hI : ∀ i σ' H', Iv i σ' H' → H' L = some (.lst (ps.map V.ref)))
    (turn : ∀ i p σ' H', ps[i]? = some p → Iv i σ' H' → g (.ref p) σ' H' fun σ2 H2 => tu { D with nx := Iv (i + 1), ct := Iv (i + 1), bk := D.nx } σ2 H2) (done : ∀ σ' H', Iv ps.length σ' H' → D.nx σ' H') : tFor (iList K (tVar i)) g tu D σ H := by
  refine ⟨_, hv, L, rfl, ⟨_, sq_of hL⟩, fun i m σ' H' => m = ps.length - i ∧ i ≤ ps.length ∧ Iv i σ' H', ⟨ps.length, by omega, Nat.zero_le _, h0⟩, ?_⟩
  rintro i m σ2 H2 ⟨rfl, hi, p⟩
  have hL2 := hI i σ2 H2 p
  by_cases hlt : i < ps.length
  · refine .inr ⟨⟨ps.map V.ref, .ref ps[i], sq_of hL2, by rw [List.getElem?_map, List.getElem?_eq_getElem hlt]; rfl⟩, Iv (i + 1), fun σ' H' p' => ⟨ps.length - (i + 1), by omega, rfl, by omega, p'⟩, fun x H3 hy => ?_⟩
    obtain ⟨rfl, f⟩ := hy
    have hx := f _ (sq_of hL2)
    rw [List.getElem?_map, List.getElem?_eq_getElem hlt] at hx
    cases hx
    exact turn i _ σ2 H3 (List.getElem?_eq_getElem hlt) p
  · have ei : i = ps.length := by omega
    subst ei
    exact .inl ⟨⟨_, sq_of hL2, by rw [List.length_map]; exact Nat.le_refl _⟩, done σ2 H2 p⟩
end
theorem okD_parts {cs : List (List Int)} (h : cs.length ≤ 40000) (h2 : ∀ c ∈ cs, c.length ≤ 40000) : okD 4 (.list (cs.map fun c => .list (c.map .int))) = true := by
  show (decide ((cs.map fun c => PyData.list (c.map .int)).length ≤ 40000) && (cs.map fun c => PyData.list (c.map .int)).all (okD 3)) = true
  rw [List.length_map, decide_eq_true h, Bool.true_and, List.all_map, List.all_eq_true]
  intro c hc
  show (decide ((c.map PyData.int).length ≤ 40000) && (c.map PyData.int).all (okD 2)) = true
  rw [List.length_map, decide_eq_true (h2 c hc), Bool.true_and, List.all_map, List.all_eq_true]
  intro i _
  rfl
theorem parts_len {n : Int} {ts : List Tie} : (parts n ts).length ≤ n.toNat := partsTo_len n ts n.toNat
theorem parts_each {n : Int} {ts : List Tie} {c : List Int} (h : c ∈ parts n ts) : c.length ≤ n.toNat := by
  obtain ⟨p, _, rfl⟩ := List.mem_map.mp h
  exact comp_len n ts p
end Pw

/-! ## PwPop -/
namespace Pw
open PySem L2 Evl
theorem erase_mapA {α β : Type} (f : α → β) : ∀ (l : List α) (i : Nat), (l.map f).eraseIdx i = (l.eraseIdx i).map f
  | [], _ => rfl
  | _ :: _, 0 => rfl
  | a :: r, i + 1 => by
    rw [List.map_cons, List.eraseIdx_cons_succ, List.eraseIdx_cons_succ, List.map_cons, erase_mapA f r i]
theorem DqAll.erase {K : PySem.W.Frag} {B : Hp} : ∀ {vs : List V} {ds : List PyData} (i : Nat), DqAll K B vs ds → DqAll K B (vs.eraseIdx i) (ds.eraseIdx i)
  | _, _, _, .nil => .nil
  | _, _, 0, .cons _ t => t
  | _, _, i + 1, .cons h t => .cons h (DqAll.erase i t)
theorem cons_erase_perm {α : Type} : ∀ (l : List α) (i : Nat) (h : i < l.length), (l[i] :: l.eraseIdx i).Perm l
  | a :: r, 0, _ => List.Perm.refl _
  | a :: r, i + 1, h => by
    have h' : i < r.length := by simpa using h
    have p := cons_erase_perm r i h'
    rw [List.eraseIdx_cons_succ]
    show (r[i] :: a :: r.eraseIdx i).Perm (a :: r)
    exact (List.Perm.swap a r[i] _).trans (p.cons a)
theorem perm_take {α : Type} {ys rest zs : List α} {i : Nat} {z : α} (h : (ys ++ rest).Perm zs) (hz : rest[i]? = some z) : ((ys ++ [z]) ++ rest.eraseIdx i).Perm zs := by
  obtain ⟨hi, e⟩ := List.getElem?_eq_some_iff.mp hz
  have p : (z :: rest.eraseIdx i).Perm rest := by
    rw [← e]
    exact cons_erase_perm rest i hi
  rw [List.append_assoc]
  exact (p.append_left ys).trans h
theorem atI2 {P : PyData → Prop} {x y : PyData} {i : Int} (hi : 0 ≤ i ∧ i < 2) (hx : P x) (hy : P y) : ∃ d, atI [x, y] i = some d ∧ P d := by
  obtain rfl | rfl : i = 0 ∨ i = 1 := by omega
  · exact ⟨x, rfl, hx⟩
  · exact ⟨y, rfl, hy⟩
theorem Xs.sub1 {b : Addr} {H H1 H2 : Hp} (x : Xs [b] H H1) (e : Ex H1 H2) : Xs [b] H H2 := x.trans (Xs.of e)
/-- a method within a comprehension -/
theorem pe_bmK {X : Cx} {o e : Expr} {es : List Expr} {to : TE} {t : TA} {name : Str} {apos cpos : Pos} {T id : String} {r : V → List V → Hp → VK → Prop} (K : PySem.W.Frag) (hK : X.K = K) (pa : PlainAttrs T) (slot : Slot T name id)
    (hty : typeOf (.builtin id) = pure (.type "method_descriptor")) (hm : MtR X id r) (ho : PE X o to) (ha : PA X (e :: es) t) (h1 : attributeBase o name X.env (eval o X.env) = eval o X.env := by rfl)
    (h2 : ((backTo cpos (starEach (e :: es) X.env)).all (fun x => !x.1) && (backToKw cpos (keywordEach [] X.env)).all (fun x => x.1.isSome) && decide ((e :: es).length + ([] : List Keyword).length + (if ([] : List Keyword).isEmpty then 0 else 1) < 30)) = true := by rfl)
    (h3 : (apos.endLine == cpos.line) = true := by rfl) (h4 : starEach (e :: es) X.env = (false, eval e X.env) :: starEach es X.env := by rfl) (h5 : (backTo cpos (starEach es X.env)).any (·.1) = false := by rfl) :
    PE X (.Call (.Attribute o name apos) (e :: es) [] cpos) (tBM K T r to t) := hK ▸ pe_bm pa slot hty hm ho ha h1 h2 h3 h4 h5
section
variable {K : PySem.W.Frag} {σ : L2.St} {B H : Hp} {S : List Addr} {b A : Addr} {c : Nat} {te : TE} {wi : TI} {g : TG} {E : XK}
/-- some.pop(take(box, len(some))) -/
theorem pop_at {ia ib : Nat} {xs : List V} {Q : VK} (ha : σ[ia]? = some (some (.ref A))) (hb : σ[ib]? = some (some (.ref b))) (hA : H A = some (.lst xs)) (nAb : A ≠ b) (hB : BoxAt H b c) (hl : c + 1 ≤ lid) (h0 : 0 < xs.length) (h1 : xs.length ≤ 40000)
    (q : ∀ i v H2, xs[i]? = some v → Xs [b] H H2 → BoxAt H2 b (c + 1) → Q v (upd H2 A (.lst (xs.eraseIdx i)))) :
    tBM K "list" rPopAt (tVar ia) (tCons (tCall spTake [] E (tCons (tVar ib) (tCons (tCB (rLenS K) (tCons (tVar ia) tNil)) tNil))) tNil) σ H Q := by
  refine ⟨_, ha, .inl ⟨rfl, _, sq_of hA⟩, _, hb, _, ha, A, _, rfl, .inl (sq_of hA), b, _, c, rfl, hB, by unfold lid at hl; omega, by omega, by omega, fun i H2 g1 g2 hx => ?_⟩
  have hi : i.toNat < xs.length := by omega
  refine ⟨A, xs, i, i.toNat, xs[i.toNat], rfl, rfl, hx.at nAb hA, by omega, by omega, (ixN_seq ?_).1, List.getElem?_eq_getElem hi, q _ _ _ (List.getElem?_eq_getElem hi) hx.x hx.at_⟩
  unfold ixN
  rw [if_pos g1, if_pos g2]
/-- [e for x in l], nothing drawn: a list that was made -/
theorem ev_lcL {α : Type} (l : List α) (enc : α → PyData) (e : α → PyData) {vs : List Nat} (w : Wd S B H) (hb : b ∈ S) (hB : BoxAt H b c) (hc : c ≤ lid) (hk : WkD K wi σ B (l.map enc)) (hl : l.length ≤ 40000)
    (turn : ∀ a ∈ l, TurnLc K g tYes te σ vs B (enc a) true (e a)) {Q : VK} (q : ∀ v B' H', Ex B B' → Wd S B' H' → Xs [b] H H' → BoxAt H' b c → DL K (l.map e) v B' → Q v H') : tLc wi g tYes te vs σ H Q := by
  refine (ex_lcL (K := K) (b := b) (k := 0) l enc e (fun i ys => ys = l.take i) hk hl rfl (fun i ys h => ?_) fun i a ys hi hP x S' B' H' c' eB' w' hb' hB' hl' hx Qy Qn hy hn => ?_).bind w hb hB (by omega) fun v B1 H1 x1 eB1 w1 hB1 ⟨ys, hys, hd⟩ => ?_
  · rw [h, List.length_take]
    exact Nat.min_le_left _ _
  · refine turn a (List.mem_of_getElem? hi) x S' B' H' eB' w' hx Qy Qn (fun _ y B2 H2 e2 eB2 w2 h2 => hy a y B2 H2 (Xs.of e2) (hB'.ex e2) w2 eB2 h2 ?_) (fun z => by cases z)
    rw [hP, List.take_add_one, hi]
    rfl
  · rw [hys, List.take_length] at hd
    exact q v B1 H1 eB1 w1 x1 (hB1.mono (by omega)) hd
/-- [some.pop(..) for x in l], some one's own list at A, the place drawn from b -/
theorem lc_pop {α β : Type} (l : List β) (encB : β → PyData) (enc : α → PyData) (zs : List α) {vs : List Nat} {xs : List V} (w : Wd S B H) (hb : b ∈ S) (hAS : A ∈ S) (nAb : A ≠ b) (hB : BoxAt H b c) (hlid : c + l.length ≤ lid) (hA : H A = some (.lst xs))
    (hx : DqAll K B xs (zs.map enc)) (hk : WkD K wi σ B (l.map encB)) (hl : l.length ≤ zs.length) (hz : zs.length ≤ 40000)
    (turn : ∀ x H' xs' c' (Qy : VK) (Qn : Hp → Prop), H' A = some (.lst xs') → 0 < xs'.length → xs'.length ≤ 40000 → BoxAt H' b c' → c' + 1 ≤ lid →
      (∀ i v H2, xs'[i]? = some v → Xs [b] H' H2 → BoxAt H2 b (c' + 1) → Qy v (upd H2 A (.lst (xs'.eraseIdx i)))) → g x (wipe σ vs) H' fun σ2 H2 => wipe σ2 vs = wipe σ vs ∧ tYes σ2 H2 fun b H3 => if b = true then te σ2 H3 Qy else Qn H3)
    {Q : VK} (q : ∀ v B' H' (ys rest : List α), (ys ++ rest).Perm zs → ys.length = l.length → Xs [b, A] H H' → Ex B B' → Wd S B' H' → BoxAt H' b (c + l.length) → (∃ xs', H' A = some (.lst xs') ∧ DqAll K B' xs' (rest.map enc)) → DL K (ys.map enc) v B' → Q v H') :
    tLc wi g tYes te vs σ H Q := by
  refine hk S H w _ fun J B1 H1 e1 eB1 w1 hgo hstop hyld Dl hD => ?_
  rw [List.length_map] at hgo hstop hyld
  have nbD : Dl ≠ b := fun z => by
    obtain ⟨o, ho⟩ := (hB.ex e1).some
    rw [← z, hD] at ho
    cases ho
  have nAD : A ≠ Dl := ne_of_none (e1 _ _ hA) hD
  refine ⟨fun i m H' => m = l.length - i ∧ i ≤ l.length ∧ Xs [b, A] H1 H' ∧ BoxAt H' b (c + i) ∧ ∃ B' acc ys rest xs', Ex B1 B' ∧ Wd (Dl :: S) B' H' ∧ H' Dl = some (.lst acc) ∧ H' A = some (.lst xs') ∧ DqAll K B' xs' (List.map enc rest) ∧ DqAll K B' acc (List.map enc ys) ∧ (ys ++ rest).Perm zs ∧ ys.length = i,
    ⟨l.length, by omega, Nat.zero_le _, Xs.of (Ex.new hD), (hB.ex e1).ex (Ex.new hD), B1, [], [], zs, xs, Ex.refl _, w1.own hD, upd_same, by rw [upd_ne nAD]; exact e1 _ _ hA, DqAll.mono eB1 hx, .nil, List.Perm.refl _, rfl⟩, ?_⟩
  rintro i m H2 ⟨rfl, hi, xH, hB2, B2, acc, ys, rest, xs', eB2, w2, hD2, hA2, hr2, hy2, hp, hyl⟩
  by_cases hlt : i < l.length
  · obtain ⟨a, ha⟩ : ∃ a, l[i]? = some a := ⟨l[i], List.getElem?_eq_getElem hlt⟩
    have hrl : xs'.length = rest.length := by rw [DqAll.length hr2, List.length_map]
    have hsum : ys.length + rest.length = zs.length := by rw [← List.length_append]; exact hp.length_eq
    refine .inr ⟨hgo i H2 (eB2.trans w2.ex) hlt, fun H' => Xs [b, A] H1 H' ∧ BoxAt H' b (c + (i + 1)) ∧ ∃ B' acc ys rest xs', Ex B1 B' ∧ Wd (Dl :: S) B' H' ∧ H' Dl = some (.lst acc) ∧ H' A = some (.lst xs') ∧ DqAll K B' xs' (List.map enc rest) ∧ DqAll K B' acc (List.map enc ys) ∧ (ys ++ rest).Perm zs ∧ ys.length = i + 1,
      fun H' ⟨h1, h2, h3⟩ => ⟨l.length - (i + 1), by omega, rfl, by omega, h1, h2, h3⟩, fun x H3 hy => ?_⟩
    obtain ⟨B3, e3, eB3, w3, d, hd1, hd2⟩ := hyld i (Dl :: S) B2 H2 x H3 eB2 w2 hlt hy
    refine turn x H3 xs' (c + i) _ _ (e3 _ _ hA2) (by omega) (by omega) (hB2.ex e3) (by omega) fun j v H4 hj x4 hB4 => ?_
    have hbS' : b ∈ Dl :: S := List.mem_cons_of_mem _ hb
    have w4 := (w3.xs hbS' (hB2.ex e3) x4 hB4).put (o := .lst (xs'.eraseIdx j)) (List.mem_cons_of_mem Dl hAS)
    have eB4 := w3.xsE hbS' x4
    obtain ⟨d2, hz1, hz2⟩ := DqAll.get hr2 hj
    rw [List.getElem?_map] at hz1
    obtain ⟨z, hz3, rfl⟩ := Option.map_eq_some_iff.mp hz1
    have hD4 : upd H4 A (.lst (xs'.eraseIdx j)) Dl = some (.lst acc) := by
      rw [upd_ne nAD.symm]
      exact x4 _ _ (fun z => nbD (List.mem_singleton.mp z)) (e3 _ _ hD2)
    have hacc : acc.length ≤ 40000 := by
      have := DqAll.length hy2
      rw [List.length_map] at this
      omega
    refine ⟨acc, hD4, sz_lt (by omega), ?_, ?_, mi H4 (Dl :: S), acc ++ [v], ys ++ [z], rest.eraseIdx j, xs'.eraseIdx j, eB2.trans (eB3.trans eB4), w4.put List.mem_cons_self, upd_same, by rw [upd_ne nAD, upd_same], ?_, ?_, perm_take hp hz3, by rw [List.length_append, hyl]; rfl⟩
    · intro p o hp' ho
      have hpb : p ≠ b := fun z => hp' (by rw [z]; exact List.mem_cons_self)
      have hpA : p ≠ A := fun z => hp' (by rw [z]; exact List.mem_cons_of_mem _ List.mem_cons_self)
      rw [upd_ne (ne_of_none ho hD), upd_ne hpA]
      exact x4 p o (fun z => hpb (List.mem_singleton.mp z)) (e3 _ _ (xH p o hp' ho))
    · exact ((hB4.upd (o := .lst (xs'.eraseIdx j)) nAb.symm).upd (o := .lst (acc ++ [v])) nbD.symm).mono (by omega)
    · rw [← erase_mapA]
      exact DqAll.erase j (DqAll.mono (eB3.trans eB4) hr2)
    · rw [List.map_append]
      exact DqAll.snoc (DqAll.mono (eB3.trans eB4) hy2) (Dq.mono (eB3.trans eB4) hz2)
  · have ei : i = l.length := by omega
    subst ei
    have w4 := w2.give hD2 (w1.nin hD)
    exact .inl ⟨hstop _ H2 (eB2.trans w2.ex) rfl, q _ _ _ ys rest hp hyl ((Xs.of e1).trans xH) (eB1.trans (eB2.trans w2.giveE)) w4 hB2 ⟨xs', hA2, DqAll.mono w2.giveE hr2⟩ ⟨Dl, acc, rfl, upd_same, DqAll.mono w2.giveE hy2⟩⟩
end
end Pw

/-! ## PwTree -/
namespace Pw
open PySem L2 Evl

/-! ### sorted(..) of a list of tuples of ints -/
def tupI (k : List Int) : PyData := .tuple (k.map .int)
theorem dqs_ti {K : PySem.W.Frag} {B : Hp} : ∀ {ks : List (List Int)} {vs : List V}, DqAll K B vs (ks.map tupI) → ∃ bs : List (Addr × List Int), vs = bs.map (fun b => V.ref b.1) ∧ bs.map (·.2) = ks ∧ ∀ b ∈ bs, B b.1 = some (.tup (b.2.map V.int))
  | [], _, h => by cases h; exact ⟨[], rfl, rfl, fun b h => by cases h⟩
  | k :: ks, _, h => by
    cases h with
    | cons h1 t =>
      obtain ⟨bs, rfl, e2, h3⟩ := dqs_ti t
      cases h1 with
      | @tup a xs _ hs hd =>
        refine ⟨(a, k) :: bs, rfl, by rw [List.map_cons, e2], fun b hb => ?_⟩
        rcases List.mem_cons.mp hb with rfl | hb
        · rw [hs, DqAll.ints_eq hd]
        · exact h3 b hb
theorem dqs_of_ti {K : PySem.W.Frag} {B : Hp} : ∀ {bs : List (Addr × List Int)}, (∀ b ∈ bs, B b.1 = some (.tup (b.2.map V.int))) → DqAll K B (bs.map fun b => V.ref b.1) ((bs.map (·.2)).map tupI)
  | [], _ => .nil
  | b :: bs, h => .cons (.tup (h b List.mem_cons_self) DqAll.ints) (dqs_of_ti fun c hc => h c (List.mem_cons_of_mem _ hc))
def rSortTI (K : PySem.W.Frag) : List V → Hp → VK → Prop := fun vs H Q => ∃ (a : Addr) (bs : List (Addr × List Int)), vs = [V.ref a] ∧ SqL K H a (bs.map fun b => V.ref b.1) ∧ (∀ b ∈ bs, b.2 ≠ [] ∧ SqT K H b.1 (b.2.map V.int)) ∧
    ∀ p, H p = none → Q (.ref p) (upd H p (.lst ((bs.mergeSort leTI).map fun b => V.ref b.1)))
/-- the same, put in order -/
def SortsTo (ks ls : List (List Int)) : Prop := ls.Perm ks ∧ ls.Pairwise (· ≤ ·)
section
variable {K : PySem.W.Frag} {σ : L2.St} {B H : Hp} {S : List Addr} {te : TE}
theorem ev_sortTI {ks : List (List Int)} (h : EvD K te σ B (.list (ks.map tupI))) (hne : ∀ k ∈ ks, k ≠ []) : EvR (tCB (rSortTI K) (tCons te tNil)) σ B (fun v B' => ∃ ls, SortsTo ks ls ∧ DL K (ls.map tupI) v B') :=
  evR_of (fun S H w Q q => h.bind w fun x B1 H1 e1 eB1 w1 rx => by
    cases rx with
    | @lst a xs _ hs hd =>
      obtain ⟨bs, rfl, e2, h3⟩ := dqs_ti hd
      refine ⟨a, bs, rfl, ex_l w1.ex hs, fun b hb => ⟨hne _ (by rw [← e2]; exact List.mem_map.mpr ⟨b, hb, rfl⟩), st_of (w1.ex _ _ (h3 b hb))⟩, fun p hp => ?_⟩
      refine q (.ref p) _ _ (e1.trans (Ex.new hp)) (eB1.trans (w1.newE (o := .lst ((bs.mergeSort leTI).map fun b => V.ref b.1)) hp)) (w1.new hp) ⟨(bs.mergeSort leTI).map (·.2), ⟨?_, ?_⟩, p, _, rfl, upd_same, ?_⟩
      · rw [← e2]
        exact (sortTI_perm bs).map _
      · exact List.pairwise_map.mpr (sortTI_le bs)
      · exact DqAll.mono (w1.newE hp) (dqs_of_ti fun b hb => h3 b ((sortTI_perm bs).mem_iff.mp hb))) fun v B B' e ⟨ls, h1, h2⟩ => ⟨ls, h1, stays_DL _ _ _ e h2⟩
end
theorem sorts_eq {ks ls ms : List (List Int)} (h : SortsTo ks ls) (g : SortsTo ks ms) : ls = ms :=
  List.Perm.eq_of_pairwise (fun a b _ _ h1 h2 => List.le_antisymm h1 h2) h.2 g.2 (h.1.trans g.1.symm)
theorem sorts_ex (ks : List (List Int)) : ∃ ls, SortsTo ks ls := by
  refine ⟨ks.mergeSort fun a b => decide (a ≤ b), List.mergeSort_perm _ _, ?_⟩
  refine (List.pairwise_mergeSort (le := fun (a b : List Int) => decide (a ≤ b)) (fun a b c h1 h2 => ?_) (fun a b => ?_) ks).imp fun {a b} h => of_decide_eq_true h
  · exact decide_eq_true (List.le_trans (of_decide_eq_true h1) (of_decide_eq_true h2))
  · rw [Bool.or_eq_true]
    exact (List.le_total a b).imp decide_eq_true decide_eq_true
theorem ev_sortsTI {K : PySem.W.Frag} {σ : L2.St} {B : Hp} {te : TE} {ks ls : List (List Int)} (h : EvD K te σ B (.list (ks.map tupI))) (hne : ∀ k ∈ ks, k ≠ []) (hs : SortsTo ks ls) : EvR (tCB (rSortTI K) (tCons te tNil)) σ B (DL K (ls.map tupI)) :=
  (ev_sortTI h hne).imp fun v B' ⟨ms, h1, h2⟩ => by rw [sorts_eq hs h1]; exact h2
def tieL (t : Tie) : List Int := [t.1, t.2.1, t.2.2]
theorem tieL_inj {s t : Tie} (h : tieL s = tieL t) : s = t := by
  obtain ⟨a, b, c⟩ := s
  obtain ⟨a', b', c'⟩ := t
  simp only [tieL, List.cons.injEq, and_true] at h
  obtain ⟨rfl, rfl, rfl⟩ := h
  rfl
theorem tie_le {s t : Tie} (h : tieL s ≤ tieL t) : s.1 < t.1 ∨ s.1 = t.1 ∧ s.2.1 ≤ t.2.1 := by
  have h2 : ¬ tieL t < tieL s := List.not_lt.mpr h
  unfold tieL at h2
  rw [List.cons_lt_cons_iff, List.cons_lt_cons_iff] at h2
  omega
/-- sorted ties -/
theorem sorts_ties : ∀ {us : List Tie} {ls : List (List Int)}, ls.Perm (us.map tieL) → ∃ ts : List Tie, ts.Perm us ∧ ls = ts.map tieL := by
  intro us ls h
  have hm : ∀ l ∈ ls, ∃ t ∈ us, tieL t = l := fun l hl => List.mem_map.mp (h.mem_iff.mp hl)
  let g : List Int → Tie := fun l => (l.getD 0 0, l.getD 1 0, l.getD 2 0)
  have hg : ∀ t, g (tieL t) = t := fun t => rfl
  refine ⟨ls.map g, ?_, ?_⟩
  · have p := h.map g
    rw [List.map_map, show (g ∘ tieL) = id from funext hg, List.map_id] at p
    exact p
  · rw [List.map_map, eq_comm]
    refine (List.map_congr_left fun l hl => ?_).trans (List.map_id ls)
    obtain ⟨t, _, rfl⟩ := hm l hl
    show tieL (g (tieL t)) = tieL t
    rw [hg]

/-! ### trees as they are drawn: each place, in the order of names, is tied to an earlier one -/
def mm (a b w : Int) : Tie := (if b < a then b else a, if b > a then b else a, w)
structure Grown (names : List Int) (us : List Tie) : Prop where
  tie : ∀ i t, us[i]? = some t → ∃ p a b w, p ≤ i ∧ names[p]? = some a ∧ names[i + 1]? = some b ∧ 1 ≤ w ∧ w ≤ 1000000000 ∧ t = mm a b w
theorem Grown.nil (names : List Int) : Grown names [] := ⟨fun i t h => by simp at h⟩
theorem Grown.snoc {names : List Int} {us : List Tie} (g : Grown names us) {p : Nat} {a b w : Int} (hp : p ≤ us.length) (ha : names[p]? = some a) (hb : names[us.length + 1]? = some b) (h1 : 1 ≤ w) (h2 : w ≤ 1000000000) : Grown names (us ++ [mm a b w]) :=
  ⟨fun i t h => by
    by_cases c : i < us.length
    · rw [List.getElem?_append_left c] at h
      exact g.tie i t h
    · have hi := (List.getElem?_eq_some_iff.mp h).1
      rw [List.length_append] at hi
      have e : i = us.length := by
        have : i < us.length + 1 := hi
        omega
      subst e
      rw [List.getElem?_append_right (Nat.le_refl _), Nat.sub_self] at h
      cases h
      exact ⟨p, a, b, w, hp, ha, hb, h1, h2, rfl⟩⟩
theorem nd_at {names : List Int} (hn : names.Nodup) {i j : Nat} {a : Int} (hi : names[i]? = some a) (hj : names[j]? = some a) : i = j := by
  obtain ⟨h1, e1⟩ := List.getElem?_eq_some_iff.mp hi
  obtain ⟨h2, e2⟩ := List.getElem?_eq_some_iff.mp hj
  exact (List.getElem_inj hn).mp (e1.trans e2.symm)
theorem mm_ends {a b w : Int} (h : a ≠ b) : (mm a b w).1 < (mm a b w).2.1 ∧ ((mm a b w).1 = a ∧ (mm a b w).2.1 = b ∨ (mm a b w).1 = b ∧ (mm a b w).2.1 = a) := by
  show (if b < a then b else a) < (if b > a then b else a) ∧ ((if b < a then b else a) = a ∧ (if b > a then b else a) = b ∨ (if b < a then b else a) = b ∧ (if b > a then b else a) = a)
  split <;> split <;> omega
theorem Grown.at {names : List Int} {us : List Tie} (g : Grown names us) (hn : names.Nodup) {i : Nat} {t : Tie} (h : us[i]? = some t) :
    ∃ p a b, p ≤ i ∧ names[p]? = some a ∧ names[i + 1]? = some b ∧ (1 ≤ t.2.2 ∧ t.2.2 ≤ 1000000000) ∧ t.1 < t.2.1 ∧ (t.1 = a ∧ t.2.1 = b ∨ t.1 = b ∧ t.2.1 = a) := by
  obtain ⟨p, a, b, w, hp, ha, hb, h1, h2, rfl⟩ := g.tie i t h
  have hne : a ≠ b := fun z => by
    rw [z] at ha
    have := nd_at hn ha hb
    omega
  obtain ⟨m1, m2⟩ := mm_ends (w := w) hne
  exact ⟨p, a, b, hp, ha, hb, ⟨h1, h2⟩, m1, m2⟩
theorem Grown.apart {names : List Int} {us : List Tie} (g : Grown names us) (hn : names.Nodup) {i j : Nat} {s t : Tie} (hij : i < j) (hs : us[i]? = some s) (ht : us[j]? = some t) : ¬ (s.1 = t.1 ∧ s.2.1 = t.2.1) := by
  obtain ⟨p, a, b, hp, ha, hb, _, _, e⟩ := g.at hn hs
  obtain ⟨p', a', b', hp', ha', hb', _, _, e'⟩ := g.at hn ht
  intro ⟨z1, z2⟩
  have hbb : b' = a ∨ b' = b := by omega
  rcases hbb with z | z
  · rw [z] at hb'
    have := nd_at hn hb' ha
    omega
  · rw [z] at hb'
    have := nd_at hn hb' hb
    omega
/-- a tree's web -/
structure TreeOf (n : Int) (names : List Int) (us ts : List Tie) : Prop where
  pos : 1 ≤ n
  top : n ≤ 60
  perm : names.Perm (rngI 0 n.toNat)
  len : us.length + 1 = n.toNat
  grown : Grown names us
  same : ts.Perm us
  ord : (ts.map tieL).Pairwise (· ≤ ·)
theorem rngI_nd (lo : Int) (n : Nat) : (rngI lo n).Nodup := (rngI_lt lo n).imp fun h => by omega
theorem TreeOf.nd {n : Int} {names : List Int} {us ts : List Tie} (T : TreeOf n names us ts) : names.Nodup := T.perm.nodup_iff.mpr (rngI_nd _ _)
theorem TreeOf.tie {n : Int} {names : List Int} {us ts : List Tie} (T : TreeOf n names us ts) {t : Tie} (h : t ∈ ts) : 0 ≤ t.1 ∧ t.1 < t.2.1 ∧ t.2.1 < n ∧ 1 ≤ t.2.2 ∧ t.2.2 ≤ 1000000000 := by
  obtain ⟨i, hi⟩ := List.getElem?_of_mem (T.same.mem_iff.mp h)
  obtain ⟨p, a, b, hp, ha, hb, hw, hlt, e⟩ := T.grown.at T.nd hi
  have ra := rngI_mem.mp (T.perm.mem_iff.mp (List.mem_of_getElem? ha))
  have rb := rngI_mem.mp (T.perm.mem_iff.mp (List.mem_of_getElem? hb))
  omega
theorem TreeOf.web {n : Int} {names : List Int} {us ts : List Tie} (T : TreeOf n names us ts) : WebOk n ts := by
  refine ⟨T.pos, fun t ht => ?_, ?_, ?_⟩
  · have := T.tie ht
    omega
  · have p1 : us.Pairwise (fun s t => ¬ (s.1 = t.1 ∧ s.2.1 = t.2.1)) := List.pairwise_iff_getElem.mpr fun i j hi hj hij => T.grown.apart T.nd hij (List.getElem?_eq_getElem hi) (List.getElem?_eq_getElem hj)
    have p2 : ts.Pairwise (fun s t => ¬ (s.1 = t.1 ∧ s.2.1 = t.2.1)) := T.same.symm.pairwise p1 fun {x y} h z => h ⟨z.1.symm, z.2.symm⟩
    refine ((List.pairwise_map.mp T.ord).and p2).imp fun {s t} ⟨h1, h2⟩ => ?_
    have := tie_le h1
    unfold pairLt
    omega
  · have := T.same.length_eq
    have := T.len
    have := T.top
    omega
theorem TreeOf.count {n : Int} {names : List Int} {us ts : List Tie} (T : TreeOf n names us ts) : (ts.length : Int) = n - 1 := by
  have := T.same.length_eq
  have := T.len
  have := T.pos
  omega
theorem rngI_succ' (k : Nat) : rngI 0 (k + 1) = rngI 0 k ++ [(k : Int)] := by
  unfold rngI
  rw [List.range_succ, List.map_append]
  simp
/-- one more put in between -/
theorem insert_perm {names : List Int} {j k : Nat} (h : names.Perm (rngI 0 k)) : (names.take j ++ [(k : Int)] ++ names.drop j).Perm (rngI 0 (k + 1)) := by
  rw [rngI_succ']
  refine List.Perm.trans ?_ (h.append_right [(k : Int)])
  have p : (names.take j ++ [(k : Int)] ++ names.drop j).Perm (names.take j ++ names.drop j ++ [(k : Int)]) := by
    rw [List.append_assoc, List.append_assoc]
    exact List.perm_append_comm.append_left _
  rw [List.take_append_drop] at p
  exact p
end Pw

/-! ## PwUpd -/
namespace Pw
open PySem L2 Evl
/-! ### hashes of pairs of small numbers are apart -/
def hp (a b : Int) : Int := reduceHash (Builtin.Tuple.tupleHashOf [hashInt a, hashInt b])
theorem hp_eq {P : Program} {w : World} (a b : Int) : tupleKeyHash (mixKind P w) (kPair a b) = hp a b := rfl
def dom30 : List (Int × Int) := (List.range 30).flatMap fun (b : Nat) => (List.range b).map fun (a : Nat) => (Int.ofNat a, Int.ofNat b)
theorem hp_nodup : (dom30.map fun p => hp p.1 p.2).Nodup := by decide +kernel
theorem dom30_mem {a b : Int} (h0 : 0 ≤ a) (h1 : a < b) (h2 : b < 30) : (a, b) ∈ dom30 := by
  unfold dom30
  rw [List.mem_flatMap]
  refine ⟨b.toNat, List.mem_range.mpr (by omega), List.mem_map.mpr ⟨a.toNat, List.mem_range.mpr (by omega), ?_⟩⟩
  show (((a.toNat : Nat) : Int), ((b.toNat : Nat) : Int)) = (a, b)
  rw [show ((a.toNat : Nat) : Int) = a by omega, show ((b.toNat : Nat) : Int) = b by omega]
theorem inj_of_nodup {α β : Type} {f : α → β} : ∀ {l : List α}, (l.map f).Nodup → ∀ {x y : α}, x ∈ l → y ∈ l → f x = f y → x = y
  | [], _, _, _, hx, _, _ => by cases hx
  | a :: r, h, x, y, hx, hy, e => by
    rw [List.map_cons, List.nodup_cons] at h
    rcases List.mem_cons.mp hx with ex | hx'
    · rcases List.mem_cons.mp hy with ey | hy'
      · rw [ex, ey]
      · exact absurd (List.mem_map.mpr ⟨y, hy', by rw [← e, ex]⟩) h.1
    · rcases List.mem_cons.mp hy with ey | hy'
      · exact absurd (List.mem_map.mpr ⟨x, hx', by rw [e, ey]⟩) h.1
      · exact inj_of_nodup h.2 hx' hy' e
theorem nodup_inj {α β : Type} {f : α → β} : ∀ {l : List α}, l.Nodup → (∀ x ∈ l, ∀ y ∈ l, f x = f y → x = y) → (l.map f).Nodup
  | [], _, _ => List.nodup_nil
  | a :: r, h, i => by
    rw [List.nodup_cons] at h
    rw [List.map_cons, List.nodup_cons]
    refine ⟨fun m => ?_, nodup_inj h.2 fun x hx y hy => i x (List.mem_cons_of_mem _ hx) y (List.mem_cons_of_mem _ hy)⟩
    obtain ⟨x, hx, e⟩ := List.mem_map.mp m
    exact h.1 (i x (List.mem_cons_of_mem _ hx) a List.mem_cons_self e ▸ hx)
/-- dicts whose keys are pairs of small numbers, the lesser one first -/
structure Small (kvs : List (List Key × V)) : Prop where
  key : ∀ p ∈ kvs, ∃ a b : Int, p.1 = kPair a b ∧ 0 ≤ a ∧ a < b ∧ b < 30
  nodup : (kvs.map (·.1)).Nodup
theorem Small.nil : Small [] := ⟨(fun p h => by cases h), List.nodup_nil⟩
theorem Small.put {kvs : List (List Key × V)} (h : Small kvs) {a b : Int} {v : V} (h0 : 0 ≤ a) (h1 : a < b) (h2 : b < 30) : Small (putK kvs (kPair a b) v) :=
  ⟨fun p hp => (putK_mem hp).elim (h.key p) fun e => ⟨a, b, by rw [e], h0, h1, h2⟩, putK_keys h.nodup⟩
theorem Small.merge : ∀ {more kvs : List (List Key × V)}, Small kvs → (∀ p ∈ more, ∃ a b : Int, p.1 = kPair a b ∧ 0 ≤ a ∧ a < b ∧ b < 30) → Small (mergeT kvs more)
  | [], _, h, _ => h
  | p :: r, kvs, h, hm => by
    obtain ⟨a, b, e, h0, h1, h2⟩ := hm p List.mem_cons_self
    have h3 := h.put (v := p.2) h0 h1 h2
    rw [← e] at h3
    exact Small.merge (more := r) h3 fun q hq => hm q (List.mem_cons_of_mem _ hq)
theorem Small.apart {P : Program} {w : World} {kvs : List (List Key × V)} (h : Small kvs) : (kvs.map fun p => tupleKeyHash (mixKind P w) p.1).Nodup := by
  have e : (kvs.map fun p => tupleKeyHash (mixKind P w) p.1) = (kvs.map (·.1)).map fun k => tupleKeyHash (mixKind P w) k := by
    rw [List.map_map]
    rfl
  rw [e]
  refine nodup_inj h.nodup fun x hx y hy exy => ?_
  obtain ⟨p, hp', rfl⟩ := List.mem_map.mp hx
  obtain ⟨q, hq, rfl⟩ := List.mem_map.mp hy
  obtain ⟨a, b, e1, h0, h1, h2⟩ := h.key p hp'
  obtain ⟨c, d, e2, g0, g1, g2⟩ := h.key q hq
  show p.1 = q.1
  have exy' : tupleKeyHash (mixKind P w) p.1 = tupleKeyHash (mixKind P w) q.1 := exy
  rw [e1, e2, hp_eq, hp_eq] at exy'
  have e3 := inj_of_nodup hp_nodup (dom30_mem h0 h1 h2) (dom30_mem g0 g1 g2) exy'
  rw [e1, e2, (Prod.mk.injEq ..  ▸ e3 : a = c ∧ b = d).1, (Prod.mk.injEq .. ▸ e3 : a = c ∧ b = d).2]
theorem kt_map {H : Hp} {P : Program} {w : World} : ∀ {kvs : List (List Key × V)} {xs : List (List Key × Addr × Value)}, KT H kvs xs → (xs.map fun x => (tupleKind (mixKind P w)).hash x.1) = kvs.map fun p => tupleKeyHash (mixKind P w) p.1
  | _, _, .nil => rfl
  | _, _, .cons h t => by
    rw [List.map_cons, List.map_cons, kt_map t, ← h.1]
    rfl
theorem kt_all {H : Hp} : ∀ {kvs : List (List Key × V)} {xs : List (List Key × Addr × Value)}, KT H kvs xs → ∀ x ∈ xs, ∃ k : List Key, H x.2.1 = some (.tup (k.map kV))
  | _, _, .nil, x, hx => by cases hx
  | _, _, .cons h t, x, hx => by
    rcases List.mem_cons.mp hx with rfl | hx
    · exact ⟨_, h.2.1⟩
    · exact kt_all t x hx
section
variable {X : Cx}
/-- d.update(e), two dicts of tuples -/
theorem mt_updT (hu : X.A.units + 1 < cLine) : MtR X "dict.update" (fun x xs H Q => ∃ (d o : Addr) (kvs more : List (List Key × V)), x = .ref d ∧ xs = [.ref o] ∧ H d = some (.dT kvs) ∧ H o = some (.dT more) ∧ d ≠ o ∧ kvs.length + more.length ≤ sizeLine ∧
    (more.map fun p => tupleKeyHash (mixKind X.prog X.w) p.1).Nodup ∧ Q .non (upd H d (.dT (mergeT kvs more)))) := by
  intro pins s σ H x xs v us Q I rx rv h
  obtain ⟨d, o, kvs, more, rfl, rfl, hd, ho, hne, hsz, hap, q⟩ := h
  cases rx
  obtain ⟨u, rfl, ru⟩ := rv.one
  cases ru
  obtain ⟨z1, l1, vs, rel1, dd1⟩ := dt_of I.hok hd
  obtain ⟨z2, l2, ws, rel2, dd2⟩ := dt_of I.hok ho
  refine call_update_dictH (knd := tupleKind (mixKind X.prog X.w)) (tupleKind_room_in1 hu) hne l2 dd1 dd2 (.inr ⟨fun y hy => ?_, ?_⟩) (by rw [← Paired.length rel1, ← Paired.length rel2]; exact hsz) fun h' hd' ho' hs => ?_
  · obtain ⟨k, hk⟩ := kt_all rel2 y hy
    obtain ⟨its, r, pl, _⟩ := I.tuple (st_of hk)
    exact pl.typeIs
  · rw [kt_map rel2]
    exact hap
  · have hml : (mergeT kvs more).length ≤ sizeLine := Nat.le_trans (length_mergeT more kvs) hsz
    obtain ⟨q', es, ep, hq, h2, h3, h4, _, h5⟩ := hd'
    refine ⟨.non, upd H d (.dT (mergeT kvs more)), d_write I (by rw [hd]; exact True.intro) hs ⟨q', hq⟩ ⟨hml, l1, _, (KT.merge rel2 rel1).keeps fun c ys ec => ?_, q', es, ep, hq, h2, h3, h4, h5⟩, rfl, q⟩
    rw [upd_ne (ne_of ec hd (fun z => nomatch z))]
    exact ec
end
section
variable {K : PySem.W.Frag} {σ : L2.St} {B H : Hp} {S : List Addr} {te ta tb tl : TE} {D : Ends}
theorem lc_rng1 {g : TG} {tt : TT} {vs : List Nat} {Q : VK} (h : ta σ H fun x H1 => tLc (iRng1 (tCons (tC x) tNil)) g tt te vs σ H1 Q) : tLc (iRng1 (tCons ta tNil)) g tt te vs σ H Q := h
/-- dict([((a, b), ..), ..]): a dict of its own -/
theorem dtup_new {ks : List (Int × Int)} {f : Int × Int → PyData} (h : EvD K ta σ B (.list (ks.map fun k => .tuple [pairD k, f k]))) (w : Wd S B H) {Q : VK}
    (q : ∀ o H' more, Ex H H' → H o = none → H' o = some (.dT more) → more.length ≤ ks.length → (more.map (·.1)).Nodup → (∀ p ∈ more, ∃ k ∈ ks, p.1 = kPair k.1 k.2) → (∀ x y : Int, (valV more (kPair x y)).isSome = true ↔ (x, y) ∈ ks) → Q (.ref o) H') : tCB (rDictT K) (tCons ta tNil) σ H Q :=
  (ea_cons h ea_nil).bind w fun vs B1 H1 e1 eB1 w1 rs => by
    cases rs with
    | cons r1 r2 =>
    cases r2
    cases r1 with
    | @lst a xs _ hs hd =>
    obtain ⟨ts, rfl, ht, hk⟩ := pairs_tups hd
    have e : (ts.map ((fun x => x.1) ∘ kvT)) = ks.map fun k => kPair k.1 k.2 := hk
    have hsub : ∀ (l : List (List Key × V)) (acc : List (List Key × V)) (p : List Key × V), p ∈ mergeT acc l → p.1 ∈ acc.map (·.1) ∨ p.1 ∈ l.map (·.1) := by
      intro l
      induction l with
      | nil => exact fun acc p hp => .inl (List.mem_map.mpr ⟨p, hp, rfl⟩)
      | cons y r ih =>
        intro acc p hp
        rcases ih (putK acc y.1 y.2) p hp with h | h
        · obtain ⟨z, hz, ez⟩ := List.mem_map.mp h
          rcases putK_mem hz with hz | hz
          · exact .inl (List.mem_map.mpr ⟨z, hz, ez⟩)
          · exact .inr (by rw [← ez, hz]; exact List.mem_cons_self)
        · exact .inr (List.mem_cons_of_mem _ h)
    have hnd : ∀ (l acc : List (List Key × V)), (acc.map (·.1)).Nodup → ((mergeT acc l).map (·.1)).Nodup := by
      intro l
      induction l with
      | nil => exact fun acc h => h
      | cons y r ih => exact fun acc h => ih (putK acc y.1 y.2) (putK_keys h)
    refine ⟨a, ts, rfl, ex_l w1.ex hs, fun t m => ⟨st_of (w1.ex _ _ (ht t m).1), w1.ex _ _ (ht t m).2⟩, fun p hp => q p _ _ (e1.trans (Ex.new hp)) (fresh_back e1 hp) upd_same ?_ (hnd _ _ List.nodup_nil) (fun x hx => ?_) fun x y => ?_⟩
    · have h1 := length_mergeT (ts.map kvT) []
      have h2 := congrArg List.length hk
      rw [List.length_map, List.length_map] at h2
      rw [List.length_nil, List.length_map] at h1
      omega
    · rcases hsub _ _ x hx with h | h
      · cases h
      · rw [List.map_map, e] at h
        obtain ⟨k, hk2, ek⟩ := List.mem_map.mp h
        exact ⟨k, hk2, ek.symm⟩
    · rw [mergeT_iff, List.map_map, e, valV_nil]
      constructor
      · rintro (h | h)
        · cases h
        · exact mem_kPair.mp h
      · exact fun h => .inr (mem_kPair.mpr h)
end
/-! ### rising pairs -/
def pltP (p q : Int × Int) : Prop := p.1 < q.1 ∨ p.1 = q.1 ∧ p.2 < q.2
theorem rising_eq : ∀ {l m : List (Int × Int)}, l.Pairwise pltP → m.Pairwise pltP → (∀ x, x ∈ l ↔ x ∈ m) → l = m
  | [], [], _, _, _ => rfl
  | [], b :: m, _, _, h => by cases (h b).mpr List.mem_cons_self
  | a :: l, [], _, _, h => by cases (h a).mp List.mem_cons_self
  | a :: l, b :: m, h1, h2, h => by
    rw [List.pairwise_cons] at h1 h2
    have irr : ∀ {p q : Int × Int}, pltP p q → pltP q p → False := fun {p q} x y => by
      unfold pltP at x y
      omega
    have e : a = b := by
      rcases List.mem_cons.mp ((h a).mp List.mem_cons_self) with e | e
      · exact e
      · rcases List.mem_cons.mp ((h b).mpr List.mem_cons_self) with e' | e'
        · exact e'.symm
        · exact (irr (h2.1 a e) (h1.1 b e')).elim
    subst e
    congr 1
    refine rising_eq h1.2 h2.2 fun x => ?_
    constructor
    · intro hx
      rcases List.mem_cons.mp ((h x).mp (List.mem_cons_of_mem _ hx)) with e | e
      · subst e
        exact (irr (h1.1 x hx) (h1.1 x hx)).elim
      · exact e
    · intro hx
      rcases List.mem_cons.mp ((h x).mpr (List.mem_cons_of_mem _ hx)) with e | e
      · subst e
        exact (irr (h2.1 x hx) (h2.1 x hx)).elim
      · exact e
end Pw

/-! ## PwDic -/
namespace Pw
open PySem L2 Evl

/-! ### t + u, t[lo:hi] of any tuples -/
section
variable {K : PySem.W.Frag} {σ : L2.St} {B H : Hp} {S : List Addr} {ta tb td ty te : TE} {ds es : List PyData} {d : PyData} {D : Ends}
theorem ev_catA (ha : EvD K ta σ B (.tuple ds)) (hb : EvD K tb σ B (.tuple es)) (hl : ds.length + es.length ≤ 100000) : EvD K (tOp (rCatA K) ta tb) σ B (.tuple (ds ++ es)) :=
  evR_of (fun S H w Q q => ha.bind w fun x B1 H1 e1 eB1 w1 rx => (hb.mono eB1).bind w1 fun y B2 H2 e2 eB2 w2 ry => by
    cases rx with
    | @tup a xs _ ha1 ha2 =>
    cases ry with
    | @tup b ys _ hb1 hb2 =>
    have hxl := DqAll.length ha2
    have hyl := DqAll.length hb2
    refine ⟨a, b, xs, ys, rfl, rfl, st_of (w2.ex _ _ (eB2 _ _ ha1)), st_of (w2.ex _ _ hb1), sz_of (by omega), fun z => ?_, fun _ z => ?_, fun _ _ p hp => ?_⟩
    · subst z
      cases ha2
      exact q _ B2 H2 (e1.trans e2) (eB1.trans eB2) w2 (.tup hb1 hb2)
    · subst z
      cases hb2
      rw [List.append_nil] at q
      exact q _ B2 H2 (e1.trans e2) (eB1.trans eB2) w2 (.tup (eB2 _ _ ha1) (DqAll.mono eB2 ha2))
    · exact q (.ref p) _ _ ((e1.trans e2).trans (Ex.new hp)) ((eB1.trans eB2).trans (w2.newE (o := .tup (xs ++ ys)) hp)) (w2.new hp) (.tup upd_same (DqAll.app (DqAll.mono (eB2.trans (w2.newE hp)) ha2) (DqAll.mono (w2.newE hp) hb2)))) stays_dp
theorem cutA_whole {α : Type} {xs : List α} {lo hi : Option Int} (h : HT.sIx xs.length 0 lo = 0 ∧ HT.sIx xs.length xs.length hi = xs.length) : cutA xs lo hi = xs := by
  unfold cutA
  rw [h.1, h.2, Nat.sub_zero]
  show (xs.drop 0).take xs.length = xs
  rw [List.drop_zero, List.take_length]
theorem ev_slA {tl th : TO} {lo hi : Option Int} (ha : EvD K ta σ B (.tuple ds)) (hl : EvP tl σ B lo) (hh : EvP th σ B hi) : EvD K (tSl (rSlA K) ta tl th) σ B (.tuple (cutA ds lo hi)) :=
  evR_of (fun S H w Q q => ha.bind w fun x B1 H1 e1 eB1 w1 rx => by
    cases rx with
    | @tup a xs _ hs hd =>
    refine hl.mono eB1 S H1 w1 _ fun H2 e2 => (hh.mono eB1) S H2 (w1.ext e2) _ fun H3 e3 => ⟨a, xs, rfl, st_of (e3 _ _ (e2 _ _ (w1.ex _ _ hs))), fun hn => ?_, fun hn p hp => ?_⟩
    · rw [DqAll.length hd] at hn
      have w3 := w1.ext (e2.trans e3)
      rw [cutA_whole hn] at q
      exact q (.ref a) _ _ (e1.trans (e2.trans e3)) eB1 w3 (.tup hs hd)
    · have w3 := w1.ext (e2.trans e3)
      exact q (.ref p) _ _ (e1.trans ((e2.trans e3).trans (Ex.new hp))) (eB1.trans (w3.newE (o := .tup (cutV xs lo hi)) hp)) (w3.new hp) (.tup upd_same (DqAll.mono (w3.newE hp) (dqAll_cut hd lo hi)))) stays_dp

/-! ### dicts of pairs with data as values -/
structure KvIn (K : PySem.W.Frag) (B : Hp) {α : Type} (l : List α) (key : α → Int × Int) (val : α → PyData) (kvs : List (List Key × V)) : Prop where
  of : ∀ p ∈ kvs, ∃ a ∈ l, p.1 = kPair (key a).1 (key a).2 ∧ Dq K B p.2 (val a)
  nd : (kvs.map (·.1)).Nodup
  all : ∀ a ∈ l, kPair (key a).1 (key a).2 ∈ kvs.map (·.1)
  few : kvs.length ≤ l.length
theorem putK_has {κ : Type} [DecidableEq κ] {kvs : List (κ × V)} {k k' : κ} {v : V} : k' ∈ (putK kvs k v).map (·.1) ↔ k' = k ∨ k' ∈ kvs.map (·.1) := by
  rw [← isSome_iff, ← isSome_iff, valV_put]
  by_cases h : k' = k
  · rw [if_pos h]
    simp [h]
  · rw [if_neg h]
    simp [h]
variable {α : Type} {l : List α} {key : α → Int × Int} {val : α → PyData} {kvs : List (List Key × V)}
theorem KvIn.mono {B' : Hp} (h : KvIn K B l key val kvs) (e : Ex B B') : KvIn K B' l key val kvs := ⟨fun p hp => by
  obtain ⟨a, h1, h2, h3⟩ := h.of p hp
  exact ⟨a, h1, h2, Dq.mono e h3⟩, h.nd, h.all, h.few⟩
theorem KvIn.nil : KvIn K B ([] : List α) key val [] := ⟨(fun p h => by cases h), List.nodup_nil, (fun a h => by cases h), Nat.le_refl _⟩
theorem KvIn.put {a : α} {v : V} (h : KvIn K B l key val kvs) (hv : Dq K B v (val a)) : KvIn K B (l ++ [a]) key val (putK kvs (kPair (key a).1 (key a).2) v) := by
  refine ⟨fun p hp => ?_, putK_keys h.nd, fun x hx => ?_, ?_⟩
  · rcases putK_mem hp with hp | rfl
    · obtain ⟨x, h1, h2, h3⟩ := h.of p hp
      exact ⟨x, List.mem_append_left _ h1, h2, h3⟩
    · exact ⟨a, List.mem_append_right _ (List.mem_singleton.mpr rfl), rfl, hv⟩
  · rw [putK_has]
    rcases List.mem_append.mp hx with hx | hx
    · exact .inr (h.all x hx)
    · rw [List.mem_singleton.mp hx]
      exact .inl rfl
  · have h1 := length_putK kvs (kPair (key a).1 (key a).2) v
    have h2 := h.few
    rw [List.length_append]
    show _ ≤ l.length + 1
    omega
theorem valV_some {κ : Type} [DecidableEq κ] : ∀ {kvs : List (κ × V)} {k : κ}, k ∈ kvs.map (·.1) → ∃ v, valV kvs k = some v ∧ (k, v) ∈ kvs
  | [], _, h => by cases h
  | p :: r, k, h => by
    by_cases e : p.1 = k
    · subst e
      exact ⟨p.2, valV_pos rfl, List.mem_cons_self⟩
    · rw [List.map_cons] at h
      rcases List.mem_cons.mp h with h | h
      · exact absurd h.symm e
      · obtain ⟨v, h1, h2⟩ := valV_some (kvs := r) h
        exact ⟨v, by rw [valV_neg e]; exact h1, List.mem_cons_of_mem _ h2⟩
theorem KvIn.get {a : α} (h : KvIn K B l key val kvs) (ha : a ∈ l) : ∃ v b, valV kvs (kPair (key a).1 (key a).2) = some v ∧ b ∈ l ∧ key b = key a ∧ Dq K B v (val b) := by
  obtain ⟨v, h1, h2⟩ := valV_some (h.all a ha)
  obtain ⟨b, h3, h4, h5⟩ := h.of _ h2
  obtain ⟨e1, e2⟩ := kPair_inj h4
  exact ⟨v, b, h1, h3, Prod.ext e1.symm e2.symm, h5⟩
theorem KvIn.keys : ∀ {kvs : List (List Key × V)}, (∀ p ∈ kvs, ∃ a ∈ l, p.1 = kPair (key a).1 (key a).2 ∧ Dq K B p.2 (val a)) → ∃ ks : List (Int × Int), kvs.map (·.1) = (ks.map fun k => [k.1, k.2]).map (·.map Sum.inl) ∧ ks.length = kvs.length ∧ ∀ k ∈ ks, ∃ a ∈ l, key a = k
  | [], _ => ⟨[], rfl, rfl, fun k h => by cases h⟩
  | p :: r, h => by
    obtain ⟨ks, h1, h2, h3⟩ := KvIn.keys (kvs := r) fun q hq => h q (List.mem_cons_of_mem _ hq)
    obtain ⟨a, ha, e, _⟩ := h p List.mem_cons_self
    refine ⟨key a :: ks, ?_, by rw [List.length_cons, List.length_cons, h2], fun k hk => ?_⟩
    · rw [List.map_cons, List.map_cons, List.map_cons, h1, e]
      rfl
    · rcases List.mem_cons.mp hk with rfl | hk
      · exact ⟨a, ha, rfl⟩
      · exact h3 k hk
theorem pairs_tupsV : ∀ {l : List α} {xs : List V}, DqAll K B xs (l.map fun a => .tuple [pairD (key a), val a]) →
    ∃ ts : List PairT, xs = ts.map (fun t => V.ref t.1) ∧ (∀ t ∈ ts, B t.1 = some (.tup [.ref t.2.1, t.2.2.2]) ∧ B t.2.1 = some (.tup (t.2.2.1.map V.int))) ∧ ∀ (acc : List (List Key × V)) (done : List α), KvIn K B done key val acc → KvIn K B (done ++ l) key val (mergeT acc (ts.map kvT))
  | [], _, h => by cases h; exact ⟨[], rfl, (fun t ht => by cases ht), fun acc done h => by rw [List.append_nil]; exact h⟩
  | a :: l, _, h => by
    cases h with
    | cons h1 h2 =>
    obtain ⟨ts, rfl, h3, h4⟩ := pairs_tupsV h2
    cases h1 with
    | @tup c ys _ hs hd =>
    cases hd with
    | @cons y1 _ _ _ q1 t =>
    cases t with
    | @cons y2 _ _ _ q2 t =>
    cases t
    cases q1 with
    | @tup b zs _ hb hz =>
    have ez := DqAll.ints_eq (ns := [(key a).1, (key a).2]) hz
    subst ez
    refine ⟨(c, b, [(key a).1, (key a).2], y2) :: ts, rfl, fun t ht => ?_, fun acc done hK => ?_⟩
    · rcases List.mem_cons.mp ht with rfl | ht
      · exact ⟨hs, hb⟩
      · exact h3 t ht
    · have g := h4 _ _ (hK.put (a := a) q2)
      rw [List.append_assoc] at g
      exact g
/-- dict([((a, b), x), ..]): a dict of its own -/
theorem dtupV_new (h : EvD K ta σ B (.list (l.map fun a => .tuple [pairD (key a), val a]))) (w : Wd S B H) {Q : VK}
    (q : ∀ o B' H' kvs, Ex H H' → Ex B B' → H o = none → H' o = some (.dT kvs) → Wd (o :: S) B' H' → KvIn K B' l key val kvs → Q (.ref o) H') : tCB (rDictT K) (tCons ta tNil) σ H Q :=
  (ea_cons h ea_nil).bind w fun vs B1 H1 e1 eB1 w1 rs => by
    cases rs with
    | cons r1 r2 =>
    cases r2
    cases r1 with
    | @lst a xs _ hs hd =>
    obtain ⟨ts, rfl, ht, hk⟩ := pairs_tupsV hd
    refine ⟨a, ts, rfl, ex_l w1.ex hs, fun t m => ⟨st_of (w1.ex _ _ (ht t m).1), w1.ex _ _ (ht t m).2⟩, fun p hp => q p B1 _ _ (e1.trans (Ex.new hp)) eB1 (fresh_back e1 hp) upd_same (w1.own hp) ?_⟩
    have g := hk [] [] KvIn.nil
    rw [List.nil_append] at g
    exact g
/-- such a dict, told and staying -/
def DicAt (kvs : List (List Key × V)) (v : V) (B : Hp) : Prop := ∃ d, v = .ref d ∧ B d = some (.dT kvs)
theorem stays_dic : Stays (DicAt kvs) := fun v B B' e ⟨d, h1, h2⟩ => ⟨d, h1, e _ _ h2⟩
def rSortDT (K : PySem.W.Frag) : List V → Hp → VK → Prop := fun vs H Q => ∃ (a : Addr) (kvs : List (List Key × V)) (ks : List (List Int)), vs = [V.ref a] ∧ Rd H a (.dT kvs) ∧ kvs.map (·.1) = ks.map (·.map Sum.inl) ∧ (∀ k ∈ ks, k ≠ []) ∧
    ∀ (bs : List (Addr × List Int)) p, bs.map (·.2) = ks → (∀ b ∈ bs, H b.1 = some (.tup (b.2.map V.int))) → H p = none → Q (.ref p) (upd H p (.lst ((bs.mergeSort leTI).map fun b => V.ref b.1)))
theorem ev_dgetT {k : Int × Int} {v : V} (hd : EvR td σ B (DicAt kvs)) (hk : EvD K ty σ B (pairD k)) (hv : valV kvs (kPair k.1 k.2) = some v) (hq : Dq K B v d) : EvD K (tDGet td ty) σ B d :=
  evR_of (fun S H w Q q => hd.bind w fun x B1 H1 e1 eB1 w1 ⟨a, ex, ha⟩ => (hk.mono eB1).bind w1 fun y B2 H2 e2 eB2 w2 ry => by
    cases ry with
    | @tup b zs _ hb hz =>
    have ez := DqAll.ints_eq (ns := [k.1, k.2]) hz
    subst ez
    subst ex
    refine ⟨a, v, rfl, ?_, q v B2 H2 (e1.trans e2) (eB1.trans eB2) w2 (Dq.mono (eB1.trans eB2) hq)⟩
    have g := DGet.t (H := H2) (a := a) (kvs := kvs) (k := kPair k.1 k.2) (b := b) (w2.ex _ _ (eB2 _ _ ha)) (w2.ex _ _ hb)
    rw [hv] at g
    exact g) stays_dp
theorem st_retL {tA : TA} (h : tA σ H fun xs H1 => xs.length ≤ sizeLine ∧ ∀ p, H1 p = none → D.rt (.ref p) (upd H1 p (.lst xs))) : tRet (tLst tA) D σ H := h
theorem ac {tA : TA} {Q : List V → Hp → Prop} (h : ta σ H fun x H1 => tA σ H1 fun xs H2 => Q (x :: xs) H2) : tCons ta tA σ H Q := h
theorem an {Q : List V → Hp → Prop} (h : Q [] H) : tNil σ H Q := h
theorem a1 {Q : List V → Hp → Prop} (h : ta σ H fun x H1 => Q [x] H1) : tCons ta tNil σ H Q := h
theorem cb1 {r : List V → Hp → VK → Prop} {Q : VK} (h : ta σ H fun x H1 => r [x] H1 Q) : tCB r (tCons ta tNil) σ H Q := h
/-- [d[k] for k in sorted(d)] -/
theorem lc_byKeys {i j : Nat} {vs : List Nat} {d : Addr} {kvs : List (List Key × V)} {ks : List (Int × Int)} {f : Int × Int → PyData} (hv : σ[i]? = some (some (.ref d))) (hw : ∀ x, wipe ((wipe σ vs).set j (some x)) vs = wipe σ vs)
    (hi : ∀ x, ((wipe σ vs).set j (some x))[i]? = some (some (.ref d))) (hj : ∀ x, ((wipe σ vs).set j (some x))[j]? = some (some x)) (w : Wd S B H) (hd : H d = some (.dT kvs)) (hks : kvs.map (·.1) = (ks.map fun k => [k.1, k.2]).map (·.map Sum.inl))
    (hval : ∀ k ∈ ks, ∃ v, valV kvs (kPair k.1 k.2) = some v ∧ Dq K B v (f k)) (hl : ks.length ≤ 40000) {Q : VK}
    (q : ∀ v B' H' (ms : List (Int × Int)), ms.Perm ks → (ms.map fun k : Int × Int => [k.1, k.2]).Pairwise (· ≤ ·) → Ex H H' → Ex B B' → Wd S B' H' → Dq K B' v (.list (ms.map f)) → Q v H') :
    tLc (iList K (tCB (rSortDT K) (tCons (tVar i) tNil))) (gName j) tYes (tDGet (tVar i) (tVar j)) vs σ H Q := by
  refine ⟨_, hv, d, kvs, _, rfl, .of hd, hks, fun k hk => ?_, fun bs L hbs hbt hL => ?_⟩
  · obtain ⟨k', _, rfl⟩ := List.mem_map.mp hk
    exact List.cons_ne_nil _ _
  have w1 := w.ext (Ex.new (o := .lst ((bs.mergeSort leTI).map fun b => V.ref b.1)) hL)
  have e1 : Ex H (upd H L (.lst ((bs.mergeSort leTI).map fun b => V.ref b.1))) := Ex.new hL
  refine ⟨L, rfl, ⟨_, sq_of upd_same⟩, fun D hD => ?_⟩
  have hL1 : upd H L (.lst ((bs.mergeSort leTI).map fun b => V.ref b.1)) L = some (.lst ((bs.mergeSort leTI).map fun b => V.ref b.1)) := upd_same
  generalize upd H L (.lst ((bs.mergeSort leTI).map fun b => V.ref b.1)) = H1 at w1 e1 hL1 hD ⊢
  let g : Addr × List Int → Int × Int := fun b => (b.2.getD 0 0, b.2.getD 1 0)
  have hb2 : ∀ b ∈ bs, ∃ k ∈ ks, b.2 = [k.1, k.2] := fun b hb => by
    have h1 : b.2 ∈ bs.map (·.2) := List.mem_map.mpr ⟨b, hb, rfl⟩
    rw [hbs] at h1
    obtain ⟨k, hk, e⟩ := List.mem_map.mp h1
    exact ⟨k, hk, e.symm⟩
  have hgk : bs.map g = ks := by
    have h1 := congrArg (List.map fun (x : List Int) => ((x.getD 0 0, x.getD 1 0) : Int × Int)) hbs
    rw [List.map_map, List.map_map] at h1
    refine h1.trans ((List.map_congr_left fun k _ => ?_).trans (List.map_id ks))
    rfl
  have hpm : ((bs.mergeSort leTI).map g).Perm ks := by
    rw [← hgk]
    exact (sortTI_perm bs).map g
  have hbl : bs.length = ks.length := by rw [← hgk, List.length_map]
  refine lc_list (K := K) (a := L) (xs := (bs.mergeSort leTI).map fun b => V.ref b.1) (fun n H' => Ex H1 H' ∧ ∃ B' acc, Ex B B' ∧ Wd (D :: S) B' H' ∧ H' D = some (.lst acc) ∧ DqAll K B' acc ((((bs.mergeSort leTI).map g).take n).map f))
    ⟨Ex.new hD, B, [], Ex.refl _, w1.own hD, upd_same, .nil⟩ (fun n H' _ h => sq_of (h.1 _ _ hL1)) ?_ ?_
  · rintro n x H2 hx ⟨e2, B2, acc, eB2, w2, hA, hdp⟩
    rw [List.getElem?_map] at hx
    obtain ⟨bb, hbb, rfl⟩ := Option.map_eq_some_iff.mp hx
    have hmem : bb ∈ bs := (sortTI_perm bs).mem_iff.mp (List.mem_of_getElem? hbb)
    obtain ⟨k, hk, ek⟩ := hb2 bb hmem
    obtain ⟨v, hv1, hv2⟩ := hval k hk
    have hbb2 : H2 bb.1 = some (.tup (bb.2.map V.int)) := e2 _ _ (e1 _ _ (hbt bb hmem))
    refine ⟨hw _, _, hi _, _, hj _, d, v, rfl, ?_, ?_⟩
    · have gg := DGet.t (H := H2) (a := d) (kvs := kvs) (k := kPair k.1 k.2) (b := bb.1) (e2 _ _ (e1 _ _ hd)) (by rw [hbb2, ek]; rfl)
      rw [hv1] at gg
      exact gg
    have hlen : acc.length ≤ 40000 := by
      rw [DqAll.length hdp, List.length_map, List.length_take, List.length_map, List.length_mergeSort]
      omega
    refine ⟨acc, hA, sz_lt (by omega), e2.mut hD, B2, acc ++ [v], eB2, w2.put List.mem_cons_self, upd_same, ?_⟩
    rw [List.take_add_one, List.map_append, List.getElem?_map, hbb]
    refine DqAll.snoc hdp ?_
    show Dq K B2 v (f (g bb))
    have eg : g bb = k := by
      show (bb.2.getD 0 0, bb.2.getD 1 0) = k
      rw [ek]
      rfl
    rw [eg]
    exact Dq.mono eB2 hv2
  · rintro H2 ⟨e2, B2, acc, eB2, w2, hA, hdp⟩
    have el : ((bs.mergeSort leTI).map fun b => V.ref b.1).length = ((bs.mergeSort leTI).map g).length := by rw [List.length_map, List.length_map]
    rw [el, List.take_length] at hdp
    refine q _ _ _ _ hpm ?_ (e1.trans e2) (eB2.trans w2.giveE) (w2.give hA (w1.nin hD)) (.lst (sq_of upd_same) (DqAll.mono w2.giveE hdp))
    rw [List.map_map, List.pairwise_map]
    refine (sortTI_le bs).imp_of_mem fun {b c} hb hc h => ?_
    obtain ⟨k1, _, z1⟩ := hb2 b ((sortTI_perm bs).mem_iff.mp hb)
    obtain ⟨k2, _, z2⟩ := hb2 c ((sortTI_perm bs).mem_iff.mp hc)
    show [b.2.getD 0 0, b.2.getD 1 0] ≤ [c.2.getD 0 0, c.2.getD 1 0]
    rw [z1, z2] at h ⊢
    exact h
end
end Pw

/-! ## PwXs -/
namespace Pw
open PySem L2 Evl
/-! ### tuples and sums of tuples of which a part draws -/
abbrev DP (K : PySem.W.Frag) (P : PyData → Prop) (v : V) (B : Hp) : Prop := ∃ d, P d ∧ Dq K B v d
theorem stays_DP {K : PySem.W.Frag} {P : PyData → Prop} : Stays (DP K P) := fun v B B' e ⟨d, h1, h2⟩ => ⟨d, h1, Dq.mono e h2⟩
section
variable {K : PySem.W.Frag} {σ : L2.St} {B H : Hp} {S : List Addr} {b : Addr} {k m c : Nat} {te ta tb : TE} {P P1 P2 : PyData → Prop} {d : PyData} {D : Ends}
theorem EvR.dp (h : EvD K te σ B d) : EvX S b 0 te σ B (DP K fun x => x = d) := (EvR.x h).imp fun v B' r => ⟨d, rfl, r⟩
theorem ex_tup1 (h : EvX S b k te σ B (DP K P)) : EvX S b k (tTup (tCons te tNil)) σ B (DP K fun x => ∃ d, P d ∧ x = .tuple [d]) :=
  evX_of (fun H c w hbS hB hl Q q => h.bind w hbS hB hl fun v B1 H1 x1 eB1 w1 hB1 ⟨d, hP, hd⟩ => ⟨Nat.le_of_ble_eq_true rfl, fun p hp =>
    q (.ref p) (upd B1 p (.tup [v])) _ (x1.trans (Xs.of (Ex.new hp))) (eB1.trans (w1.newE hp)) (w1.new hp) (hB1.ex (Ex.new hp)) ⟨_, ⟨d, hP, rfl⟩, .tup upd_same (.cons (Dq.mono (w1.newE hp) hd) .nil)⟩⟩) stays_DP
theorem ex_tup2 (h1 : EvX S b k ta σ B (DP K P1)) (h2 : EvX S b m tb σ B (DP K P2)) : EvX S b (k + m) (tTup (tCons ta (tCons tb tNil))) σ B (DP K fun x => ∃ d1 d2, P1 d1 ∧ P2 d2 ∧ x = .tuple [d1, d2]) :=
  evX_of (fun H c w hbS hB hl Q q => h1.bind w hbS hB (by omega) fun v B1 H1 x1 eB1 w1 hB1 ⟨d1, hP1, hd1⟩ => (h2.mono eB1).bind w1 hbS hB1 (by omega) fun u B2 H2 x2 eB2 w2 hB2 ⟨d2, hP2, hd2⟩ => ⟨Nat.le_of_ble_eq_true rfl, fun p hp =>
    q (.ref p) (upd B2 p (.tup [v, u])) _ ((x1.trans x2).trans (Xs.of (Ex.new hp))) ((eB1.trans eB2).trans (w2.newE hp)) (w2.new hp) ((hB2.ex (Ex.new hp)).mono (by omega)) ⟨_, ⟨d1, d2, hP1, hP2, rfl⟩, .tup upd_same (.cons (Dq.mono (eB2.trans (w2.newE hp)) hd1) (.cons (Dq.mono (w2.newE hp) hd2) .nil))⟩⟩) stays_DP
theorem ex_catA (h1 : EvX S b k ta σ B (DP K P1)) (h2 : EvX S b m tb σ B (DP K P2)) (hl : ∀ d1 d2, P1 d1 → P2 d2 → ∃ xs ys, d1 = .tuple xs ∧ d2 = .tuple ys ∧ xs.length + ys.length ≤ 100000) :
    EvX S b (k + m) (tOp (rCatA K) ta tb) σ B (DP K fun x => ∃ xs ys, P1 (.tuple xs) ∧ P2 (.tuple ys) ∧ x = .tuple (xs ++ ys)) :=
  evX_of (fun H c w hbS hB hlid Q q => h1.bind w hbS hB (by omega) fun v B1 H1 x1 eB1 w1 hB1 ⟨d1, hP1, hd1⟩ => (h2.mono eB1).bind w1 hbS hB1 (by omega) fun u B2 H2 x2 eB2 w2 hB2 ⟨d2, hP2, hd2⟩ => by
    obtain ⟨xs, ys, rfl, rfl, hlen⟩ := hl d1 d2 hP1 hP2
    have h3 : tOp (rCatA K) (tC v) (tC u) σ H2 Q := (ev_catA (K := K) (σ := σ) (ta := tC v) (tb := tC u) (ev_c (Dq.mono eB2 hd1)) (ev_c hd2) hlen).bind w2 fun r B3 H3 e3 eB3 w3 hr => q r B3 H3 ((x1.trans x2).trans (Xs.of e3)) (eB1.trans (eB2.trans eB3)) w3 ((hB2.ex e3).mono (by omega)) ⟨_, ⟨xs, ys, hP1, hP2, rfl⟩, hr⟩
    exact h3) stays_DP
theorem st_next (h : D.nx σ H) : tNext D σ H := h
theorem st_par {i j : Nat} (h : ta σ H fun x H1 => tb σ H1 fun y H2 => ∃ v w, [x, y] = [v, w] ∧ D.nx ((σ.set i (some v)).set j (some w)) H2) : tPar i j (tCons ta (tCons tb tNil)) D σ H := h
theorem ex_ret (h : EvX S b k te σ B (DP K P)) (w : Wd S B H) (hb : b ∈ S) (hB : BoxAt H b c) (hl : c + k ≤ lid) (q : ∀ v d H', P d → Xs [b] H H' → BoxAt H' b (c + k) → Dq K (mi H' S) v d → D.rt v H') : tRet te D σ H :=
  h.bind w hb hB hl fun v B1 H1 x1 eB1 w1 hB1 ⟨d, hP, hd⟩ => q v d H1 hP x1 hB1 (Dq.mono (ex_mi w1.ex w1.no) hd)
end
end Pw

/-! ## PwIter -/
namespace Pw
open PySem PySem.Spec PyProof.Rows L2 Evl

/-! ### zip over lists and tuples in any mix, enumerate over a list or a tuple -/
/-- the sequence at a: t says whether it is a tuple -/
def SqO (t : Bool) (K : PySem.W.Frag) (H : Hp) (a : Addr) (xs : List V) : Prop := match t with
  | true => SqT K H a xs
  | false => SqL K H a xs
def SeqH (t : Bool) (h : Heap) (a : Addr) (its : Array Value) : Prop := match t with
  | true => h.IsTuple a its
  | false => h.IsList a its
def IterH (t : Bool) (h : Heap) (i a : Addr) (k : Nat) : Prop := match t with
  | true => h.IsTupleIter i a k
  | false => h.IsListIter i a k
section
variable {X : Cx} {pins : List (Addr × Obj)} {σ : L2.St} {H : Hp} {s : Shared} {t : Bool} {a : Addr} {xs ys : List V}
theorem seqO (I : L2.Inv X pins σ H s) (h : SqO t X.K H a xs) : ∃ its : List Value, Vals xs its ∧ SeqH t s.heap a its.toArray ∧ a < s.heap.objs.size := by
  cases t with
  | true =>
    obtain ⟨its, rv, p, _⟩ := I.tuple h
    refine ⟨its, rv, p, ?_⟩
    obtain ⟨o, ho, _⟩ := id p
    exact Heap.lt_size ho
  | false =>
    obtain ⟨its, rv, p, _⟩ := I.list h
    exact ⟨its, rv, p.isList, p.lt⟩
theorem seqO_inj (I : L2.Inv X pins σ H s) (h : SqO t X.K H a xs) (g : SqO t X.K H a ys) : xs = ys := by
  cases t with
  | true => exact I.tuple_inj h g
  | false => exact I.list_inj h g
end
theorem iterH_at {t : Bool} {h h' : Heap} {i a : Addr} {k : Nat} (q : IterH t h i a k) (e : ∀ o, h.get? i = some o → h'.get? i = some o) : IterH t h' i a k := by
  cases t with
  | true => exact Heap.IsTupleIter.at q e
  | false => exact Heap.IsListIter.at q e
theorem iterH_obj {t : Bool} {h : Heap} {i a : Addr} {k : Nat} (q : IterH t h i a k) : ∃ o, h.get? i = some o ∧ ∀ v, o.data ≠ .cell v := by
  cases t with
  | true =>
    obtain ⟨o, e, _, d⟩ := (show h.IsTupleIter i a k from q)
    exact ⟨o, e, fun v z => by rw [d] at z; cases z⟩
  | false =>
    obtain ⟨o, e, _, d⟩ := (show h.IsListIter i a k from q)
    exact ⟨o, e, fun v z => by rw [d] at z; cases z⟩
theorem draws_of {prog : Program} {w : World} {A : Around} (t : Bool) (hh : A.handled = none) (i a : Addr) (ne : a ≠ i) (its : Array Value) :
    Draws prog w A i [i, a] its.size (fun k v => its[k]? = some v) (fun k h => IterH t h i a k ∧ SeqH t h a its) := by
  cases t with
  | true => exact Draws.tuple hh i a ne its
  | false => exact Draws.list hh i a ne its
/-- how iter(..) of such a sequence begins -/
theorem begins_of (t : Bool) (a : Addr) (its : Array Value) : ∃ o, Begins (.ref a) o (fun h => SeqH t h a its) ∧ ∀ h i, h.get? i = some o → IterH t h i a 0 := by
  cases t with
  | true => exact ⟨_, begins_tuple a its, fun h i e => ⟨_, e, rfl, rfl⟩⟩
  | false => exact ⟨_, begins_list a its, fun h i e => ⟨_, e, rfl, rfl⟩⟩

/-! #### zip -/
def ItzO (t u : Bool) (K : PySem.W.Frag) (a b : Addr) : It :=
  ⟨fun i H => ∃ (xs ys : List V) (x y : V), SqO t K H a xs ∧ SqO u K H b ys ∧ xs[i]? = some x ∧ ys[i]? = some y,
   fun i H v H' => ∃ T x y, v = .ref T ∧ H T = none ∧ H' = upd H T (.tup [x, y]) ∧ (∀ xs, SqO t K H a xs → xs[i]? = some x) ∧ ∀ ys, SqO u K H b ys → ys[i]? = some y,
   fun i H => ∃ xs ys : List V, SqO t K H a xs ∧ SqO u K H b ys ∧ (xs.length = i ∧ i ≤ ys.length ∨ ys.length = i ∧ i ≤ xs.length)⟩
theorem turnZ {P : Program} {w : World} {K : PySem.W.Frag} {elts : List Expr} {kk : Nat} {tpos : Pos} (t u : Bool) {a b z T1 T2 i1 i2 : Addr} (S : ZipSep2 z T1 T2 i1 i2 [i1, a] [i2, b]) (na : a ≠ i1) (nb : b ≠ i2) :
    Turn P w K (.Tuple elts kk tpos) (ItzO t u K a b) [z, T1, T2, i1, i2] z (fun i h => IsZip h z T1 T2 .none ∧ IsTupOf2 h T1 (.ref i1) (.ref i2) ∧ (∃ x y, IsTupOf2 h T2 x y) ∧ IterH t h i1 a i ∧ IterH u h i2 b i) := by
  have five : ∀ {c : Addr}, c ∈ [z, T1, T2, i1, i2] → c = z ∨ c = T1 ∨ c = T2 ∨ c = i1 ∨ c = i2 := fun {c} m => by simpa using m
  refine { mem := List.mem_cons_self, obj := ?_, keep := ?_, item := ?_, done := ?_, self := fun A i s Q E st h => wpAny_pyIter_zip st.1 h }
  · rintro i h ⟨hz, h1, ⟨x, y, h2⟩, g1, g2⟩ c m
    rcases five m with e | e | e | e | e <;> subst e
    · exact ⟨_, hz, fun v q => nomatch q⟩
    · exact ⟨_, h1, fun v q => nomatch q⟩
    · exact ⟨_, h2, fun v q => nomatch q⟩
    · exact iterH_obj g1
    · exact iterH_obj g2
  · rintro i h h' ⟨hz, h1, ⟨x, y, h2⟩, g1, g2⟩ k
    exact ⟨k z (by simp) _ hz, k T1 (by simp) _ h1, ⟨x, y, k T2 (by simp) _ h2⟩, iterH_at g1 fun o => k i1 (by simp) o, iterH_at g2 fun o => k i2 (by simp) o⟩
  · intro X eP ew eK calm i pins s σ H E I fp ⟨hz, h1, ⟨x0, y0, h2⟩, g1, g2⟩ ⟨xs, ys, x, y, qa, qb, hx, hy⟩
    subst eP ew eK
    obtain ⟨its, r1, q1, _⟩ := seqO I qa
    obtain ⟨jts, r2, q2, _⟩ := seqO I qb
    obtain ⟨ux, eux, rux⟩ := r1.get hx
    obtain ⟨uy, euy, ruy⟩ := r2.get hy
    have lx := (List.getElem?_eq_some_iff.mp eux).1
    have ly := (List.getElem?_eq_some_iff.mp euy).1
    have hzl : z < s.heap.objs.size := Heap.lt_size hz
    have hh : X.A.in1.handled = none := I.ok.hd calm
    refine wpAny_pyNext_zipD2_item S (draws_of t hh i1 a na its.toArray) (draws_of u hh i2 b nb jts.toArray) hz h1 h2 ⟨g1, q1⟩ ⟨g2, q2⟩ (by simpa using lx) (by simpa using ly) fun u1 u2 h' tk e1 e2 hz' h2' ⟨g1', _⟩ ⟨g2', _⟩ hn hsz hk => ?_
    have e1' : u1 = ux := by
      have e := e1
      rw [List.getElem?_toArray, eux] at e
      exact (Option.some.inj e).symm
    have e2' : u2 = uy := by
      have e := e2
      rw [List.getElem?_toArray, euy] at e
      exact (Option.some.inj e).symm
    subst e1' e2'
    refine ⟨_, rfl, wpAny_letOwnedTupleGo_zip (s := { s with heap := h', toks := tk }) hz' fun h3 hz3 sb => ?_⟩
    have hn3 : h3.get? s.heap.objs.size = some { cls := .type "tuple", data := .seq #[u1, u2] } := (sb.2 _ (Nat.ne_of_gt hzl)).trans hn
    have nobj : ObjOk X.prog X.w (upd H s.heap.objs.size (.tup [x, y])) h3 s.heap.objs.size (.tup [x, y]) := ⟨by show 2 ≤ sizeLine; decide, [u1, u2], .cons rux (.cons ruy .nil), ⟨_, hn3, rfl, _, rfl⟩⟩
    have back : ∀ c o, c ∉ [z, T1, T2, i1, i2] → s.heap.get? c = some o → h3.get? c = some o := fun c o m e => by
      have m1 : c ≠ z := fun q => m (by rw [q]; simp)
      exact (sb.2 c m1).trans (hk c o m1 (fun q => m (by rw [q]; simp)) (fun q => m (by rw [q]; simp)) (fun q => m (by rw [q]; simp)) e)
    have J : L2.Inv X pins σ (upd H s.heap.objs.size (.tup [x, y])) { s with heap := h3, toks := tk } := I.turnedNew (t' := tk) (ch := [z, T1, T2, i1, i2]) back fp (Nat.le_refl _) nobj
    refine ⟨.ref s.heap.objs.size, _, J, rfl, ⟨_, x, y, rfl, I.hok.fresh (Nat.le_refl _), rfl, fun l hl => by rw [seqO_inj I hl qa]; exact hx, fun l hl => by rw [seqO_inj I hl qb]; exact hy⟩, ⟨hz3, ?_, ⟨u1, u2, (sb.2 _ S.TOz).trans h2'⟩, iterH_at g1' fun o e => (sb.2 _ S.zi1.symm).trans e, iterH_at g2' fun o e => (sb.2 _ S.zi2.symm).trans e⟩, fun c m => ?_⟩
    · exact (sb.2 _ S.TIz).trans (hk _ _ S.TIz S.TITO S.TIi1 S.TIi2 h1)
    · have hc : c < s.heap.objs.size := by
        obtain ⟨o, e, _⟩ : ∃ o, s.heap.get? c = some o ∧ True := by
          rcases five m with e | e | e | e | e <;> subst e
          · exact ⟨_, hz, trivial⟩
          · exact ⟨_, h1, trivial⟩
          · exact ⟨_, h2, trivial⟩
          · obtain ⟨o, e, _⟩ := iterH_obj g1
            exact ⟨o, e, trivial⟩
          · obtain ⟨o, e, _⟩ := iterH_obj g2
            exact ⟨o, e, trivial⟩
        exact Heap.lt_size e
      rw [upd_ne (Nat.ne_of_lt hc)]
      exact (fp c m).1
  · intro X eP ew eK calm i pins s σ H E I fp ⟨hz, h1, ⟨x0, y0, h2⟩, g1, g2⟩ ⟨xs, ys, qa, qb, hend⟩
    subst eP ew eK
    obtain ⟨its, r1, q1, _⟩ := seqO I qa
    obtain ⟨jts, r2, q2, _⟩ := seqO I qb
    have l1 := r1.length
    have l2 := r2.length
    have hh : X.A.in1.handled = none := I.ok.hd calm
    refine wpAny_pyNext_zipD2_end S (draws_of t hh i1 a na its.toArray) (draws_of u hh i2 b nb jts.toArray) hz h1 h2 ⟨g1, q1⟩ ⟨g2, q2⟩ (by rw [List.size_toArray]; omega) (by rw [List.size_toArray]; omega) (by rw [List.size_toArray, List.size_toArray]; omega) fun h' tk hk => ⟨rfl, I.turnedL (t' := tk) (ch := [z, T1, T2, i1, i2]) (fun c o m e => ?_) fp⟩
    exact hk c o (fun q => m (by rw [q]; simp)) (fun q => m (by rw [q]; simp)) (fun q => m (by rw [q]; simp)) (fun q => m (by rw [q]; simp)) e
def iZipO (t u : Bool) (K : PySem.W.Frag) (ta : TA) : TI := fun σ H R => ta σ H fun vs H1 => ∃ a b xs ys, vs = [.ref a, .ref b] ∧ SqO t K H1 a xs ∧ SqO u K H1 b ys ∧ R (ItzO t u K a b) H1
theorem pi_zipO {X : Cx} {e e2 : Expr} {ta : TA} {p pos tpos : Pos} {elts : List Expr} {kk : Nat} (t u : Bool) (hg : Gl X "zip") (hm : X.mg "zip" = none) (ha : PA X [e, e2] ta)
    (hs : starEach [e, e2] X.env = (false, eval e X.env) :: starEach [e2] X.env := by rfl) (hpl : (backTo pos (starEach [e2] X.env)).any (·.1) = false := by rfl) :
    PI X (.Tuple elts kk tpos) (.Call (.Name "zip" p) [e, e2] [] pos) (iZipO t u X.K ta) := by
  refine ⟨fun pins s σ H R I h => Call_ (ld_blt I hg hm PyProof.Rows.boot_zip (PyProof.Rows.callWith_type1 (thn (ha.run pos pins s σ H _ I h) fun us s1 ⟨vs, H1, I1, r1, a, b, xs, ys, ev, qa, qb, q⟩ => ?_) hs hpl))⟩
  subst ev
  cases r1 with
  | cons r rr => cases rr with
    | cons r' rr =>
      cases rr
      cases r
      cases r'
      obtain ⟨its, _, q1, la⟩ := seqO I1 qa
      obtain ⟨jts, _, q2, lb⟩ := seqO I1 qb
      obtain ⟨o1, B1, n1⟩ := begins_of t a its.toArray
      obtain ⟨o2, B2, n2⟩ := begins_of u b jts.toArray
      refine zip_begins2 B1 B2 q1 q2 fun h' hz h1 h2 g1 g2 hsz hk => wpAny_pyIter_zip hz ?_
      have J : L2.Inv X pins σ H1 { s1 with heap := h' } := I1.kept (t' := s1.toks) hk
      refine ⟨_, [s1.heap.objs.size + 4, s1.heap.objs.size + 2, s1.heap.objs.size + 3, s1.heap.objs.size, s1.heap.objs.size + 1], _, _, H1, rfl, J,
        turnZ t u (zip_sep2 (N := s1.heap.objs.size) (fp1 := [a]) (fp2 := [b]) (fun c m => by rw [List.mem_singleton.mp m]; exact la) (fun c m => by rw [List.mem_singleton.mp m]; exact lb)) (Nat.ne_of_lt la) (Nat.ne_of_lt (Nat.lt_succ_of_lt lb)), ⟨hz, h1, ⟨_, _, h2⟩, n1 _ _ g1, n2 _ _ g2⟩, fun c m => ?_, q⟩
      have hle : s1.heap.objs.size ≤ c := by
        simp only [List.mem_cons, List.not_mem_nil, or_false] at m
        rcases m with e | e | e | e | e <;> rw [e]
        · exact Nat.le_add_right _ _
        · exact Nat.le_add_right _ _
        · exact Nat.le_add_right _ _
        · exact Nat.le_refl _
        · exact Nat.le_add_right _ _
      exact I1.fpOk hle (I1.hok.fresh hle)

/-! #### enumerate -/
def enumObj (N : Addr) : Obj := { cls := .type "enumerate", data := .fields #[.none, .bool false, .ref N, rawInt 0, .none, .none] }
theorem meetsEnum {v : Value} {ob : Obj} {H0 : Heap → Prop} (B : Begins v ob H0) :
    Meets (Builtin.«enumerate.__new__» ⟨[.type "enumerate", v], []⟩) (fun _ R s => H0 s.heap ∧ R (.ok (.ret (.ref (s.heap.push ob).objs.size))) { s with heap := (s.heap.push ob).push (enumObj s.heap.objs.size) }) :=
  .of_wp fun pr w1 A1 R1 s1 hyp => by
    obtain ⟨hp, ge, dr, tk, os⟩ := s1
    obtain ⟨b0, hyp⟩ := hyp
    have subE := sub_enumerate
    have itr : ∀ {A2 : Around} {E2 : Value → Shared → Prop} {Q2 : Value → Shared → Prop}, Q2 (.ref hp.objs.size) ⟨hp.push ob, ge, dr, tk, os⟩ → wpAny (model pr w1) A2 (pyIter v) Q2 E2 ⟨hp, ge, dr, tk, os⟩ := fun q => B.iter pr w1 _ _ ⟨hp, ge, dr, tk, os⟩ _ b0 q
    wp_walk using itr
    refine wpAny_stack_any fun stk => wpAny_pure ?_
    split
    · rename_i cl _ _ _ _ _
      cases (cl == Value.type "enumerate") <;> (wp_walk using itr; exact ⟨_, rfl, hyp⟩)
    · wp_walk using itr
      exact ⟨_, rfl, hyp⟩
theorem call_enumO {prog : Program} {w : World} {A : Around} {E : Value → Shared → Prop} {s : Shared} {v : Value} {ob : Obj} {H0 : Heap → Prop} {Q : Value → Shared → Prop} (B : Begins v ob H0) (b0 : H0 s.heap)
    (q : ∀ h', IsEnum h' (s.heap.objs.size + 1) s.heap.objs.size 0 .none → h'.get? s.heap.objs.size = some ob → (∀ c o, s.heap.get? c = some o → h'.get? c = some o) → Q (.ref (s.heap.objs.size + 1)) { s with heap := h' }) :
    wpAny (model prog w) A (call (.type "enumerate") [v]) Q E s := by
  have sz : (s.heap.push ob).objs.size = s.heap.objs.size + 1 := Heap.size_push ..
  refine callType_new F.called_enumerate (by decide) (F.typeCall_enumerate_1 _) (F.newCall_enumerate_1 _) (fun x => F.args_object_init_2 x _) F.entry_enumerate_new (meetsEnum B) ⟨b0, ?_⟩
  have top : ((s.heap.push ob).push (enumObj s.heap.objs.size)).get? (s.heap.push ob).objs.size = some (enumObj s.heap.objs.size) := Heap.get?_push_size _ rfl
  rw [sz] at top
  show _ ∧ _
  rw [sz]
  exact ⟨⟨_, top, rfl⟩, q _ top (Heap.get?_push_of_some _ (Heap.get?_push_size _ B.free)) fun c o e => Heap.get?_push_of_some _ (Heap.get?_push_of_some _ e)⟩
def IteO (t : Bool) (K : PySem.W.Frag) (a : Addr) : It :=
  ⟨fun i H => ∃ (xs : List V) (x : V), SqO t K H a xs ∧ xs[i]? = some x,
   fun i H v H' => ∃ T x, v = .ref T ∧ H T = none ∧ H' = upd H T (.tup [.int (i : Nat), x]) ∧ ∀ xs, SqO t K H a xs → xs[i]? = some x,
   fun i H => ∃ xs : List V, SqO t K H a xs ∧ xs.length = i⟩
theorem turnE {P : Program} {w : World} {K : PySem.W.Frag} {elts : List Expr} {kk : Nat} {tpos : Pos} (t : Bool) {a e it : Addr} (hne : e ≠ it) (na : a ≠ it) (ea : e ≠ a) :
    Turn P w K (.Tuple elts kk tpos) (IteO t K a) [e, it] e (fun i h => (∃ old, IsEnum h e it ((i : Nat) : Int) old) ∧ IterH t h it a i) := by
  have two : ∀ {c : Addr}, c ∈ [e, it] → c = e ∨ c = it := fun {c} m => by simpa using m
  have nef : e ∉ [it, a] := fun m => by
    rcases List.mem_cons.mp m with z | z
    · exact hne z
    · exact ea (List.mem_singleton.mp z)
  refine { mem := List.mem_cons_self, obj := ?_, keep := ?_, item := ?_, done := ?_, self := fun A i s Q E st h => st.1.elim fun _ he => wpAny_pyIter_enum he h }
  · rintro i h ⟨⟨old, he⟩, g⟩ c m
    rcases two m with z | z <;> subst z
    · exact ⟨_, he, fun v q => nomatch q⟩
    · exact iterH_obj g
  · rintro i h h' ⟨⟨old, he⟩, g⟩ k
    exact ⟨⟨old, k e (by simp) _ he⟩, iterH_at g fun o => k it (by simp) o⟩
  · intro X eP ew eK calm i pins s σ H E I fp ⟨⟨old, he⟩, g⟩ ⟨xs, x, qa, hx⟩
    subst eP ew eK
    obtain ⟨its, r1, q1, _⟩ := seqO I qa
    obtain ⟨ux, eux, rux⟩ := r1.get hx
    have lx := (List.getElem?_eq_some_iff.mp eux).1
    have hel : e < s.heap.objs.size := Heap.lt_size he
    have hh : X.A.in1.handled = none := I.ok.hd calm
    refine wpAny_pyNext_enum_itemD (draws_of t hh it a na its.toArray) he ⟨g, q1⟩ (by simpa using lx) hne nef fun u1 h' tk e1 ho ⟨g', _⟩ hn hsz hk => ?_
    have e1' : u1 = ux := by
      have z := e1
      rw [List.getElem?_toArray, eux] at z
      exact (Option.some.inj z).symm
    subst e1'
    refine ⟨_, rfl, wpAny_letOwnedTupleGo_enum (s := { s with heap := h', toks := tk + 1 }) ho fun h3 he3 sb => ?_⟩
    have hn3 : h3.get? s.heap.objs.size = some { cls := .type "tuple", data := .seq #[.int i tk, u1] } := (sb.2 _ (Nat.ne_of_gt hel)).trans hn
    have nobj : ObjOk X.prog X.w (upd H s.heap.objs.size (.tup [.int (i : Nat), x])) h3 s.heap.objs.size (.tup [.int (i : Nat), x]) := ⟨by show 2 ≤ sizeLine; decide, [.int i tk, u1], .cons ⟨_, rfl⟩ (.cons rux .nil), ⟨_, hn3, rfl, _, rfl⟩⟩
    have back : ∀ c o, c ∉ [e, it] → s.heap.get? c = some o → h3.get? c = some o := fun c o m z => by
      have m1 : c ≠ e := fun q => m (by rw [q]; simp)
      exact (sb.2 c m1).trans (hk c o m1 (fun q => m (by rw [q]; simp)) z)
    have J : L2.Inv X pins σ (upd H s.heap.objs.size (.tup [.int (i : Nat), x])) { s with heap := h3, toks := tk + 1 } := I.turnedNew (t' := tk + 1) (ch := [e, it]) back fp (Nat.le_refl _) nobj
    refine ⟨.ref s.heap.objs.size, _, J, rfl, ⟨_, x, rfl, I.hok.fresh (Nat.le_refl _), rfl, fun l hl => by rw [seqO_inj I hl qa]; exact hx⟩, ⟨⟨u1, ?_⟩, iterH_at g' fun o z => (sb.2 _ hne.symm).trans z⟩, fun c m => ?_⟩
    · rw [show ((i + 1 : Nat) : Int) = (i : Int) + 1 by omega]
      exact he3
    · have hc : c < s.heap.objs.size := by
        rcases two m with z | z <;> subst z
        · exact hel
        · obtain ⟨o, z, _⟩ := iterH_obj g
          exact Heap.lt_size z
      rw [upd_ne (Nat.ne_of_lt hc)]
      exact (fp c m).1
  · intro X eP ew eK calm i pins s σ H E I fp ⟨⟨old, he⟩, g⟩ ⟨xs, qa, hend⟩
    subst eP ew eK
    obtain ⟨its, r1, q1, _⟩ := seqO I qa
    have l1 := r1.length
    have hh : X.A.in1.handled = none := I.ok.hd calm
    have ei : i = its.toArray.size := by rw [List.size_toArray]; omega
    obtain ⟨f0, f1, f2, f3, f4, f5⟩ := fp it (by simp)
    refine wpAny_pyNext_enum_endD (n := its.toArray.size) (draws_of t hh it a na its.toArray) he ⟨by rw [← ei]; exact g, q1⟩ fun h' eb => ⟨rfl, I.turned (t' := s.toks) (fun c o m z => eb c o m z) f0 f1 f3 f4 f5⟩
def iEnumO (t : Bool) (K : PySem.W.Frag) (ta : TA) : TI := fun σ H R => ta σ H fun vs H1 => ∃ a xs, vs = [.ref a] ∧ SqO t K H1 a xs ∧ R (IteO t K a) H1
theorem pi_enumO {X : Cx} {e : Expr} {ta : TA} {p pos tpos : Pos} {elts : List Expr} {kk : Nat} (t : Bool) (hg : Gl X "enumerate") (hm : X.mg "enumerate" = none) (ha : PA X [e] ta) (hs : starEach [e] X.env = [(false, eval e X.env)] := by rfl) :
    PI X (.Tuple elts kk tpos) (.Call (.Name "enumerate" p) [e] [] pos) (iEnumO t X.K ta) := by
  refine ⟨fun pins s σ H R I h => Call_ (ld_blt I hg hm boot_enumerate (PyProof.Rows.callWith_type1 (thn (ha.run pos pins s σ H _ I h) fun us s1 ⟨vs, H1, I1, r1, a, xs, ev, qa, q⟩ => ?_) hs rfl))⟩
  subst ev
  cases r1 with
  | cons r rr =>
    cases rr
    cases r
    obtain ⟨its, _, q1, la⟩ := seqO I1 qa
    obtain ⟨o1, B1, n1⟩ := begins_of t a its.toArray
    refine call_enumO B1 q1 fun h' he g1 hk => wpAny_pyIter_enum he ?_
    have J : L2.Inv X pins σ H1 { s1 with heap := h' } := I1.kept (t' := s1.toks) hk
    refine ⟨_, [s1.heap.objs.size + 1, s1.heap.objs.size], _, _, H1, rfl, J, turnE t (Nat.succ_ne_self _) (Nat.ne_of_lt la) (Nat.ne_of_gt (Nat.lt_succ_of_lt la)), ⟨⟨.none, he⟩, n1 _ _ g1⟩, fun c m => ?_, q⟩
    have hle : s1.heap.objs.size ≤ c := by
      simp only [List.mem_cons, List.not_mem_nil, or_false] at m
      rcases m with z | z <;> rw [z]
      · exact Nat.le_add_right _ _
      · exact Nat.le_refl _
    exact I1.fpOk hle (I1.hok.fresh hle)

/-! #### as walks over data -/
section
variable {K : PySem.W.Frag} {σ : L2.St} {B H : Hp} {S : List Addr} {tA : TA} {ds es : List PyData}
theorem dq_seqO {t : Bool} {v : V} (h : Dq K B v (seqD t ds)) : ∃ a xs, v = .ref a ∧ DqAll K B xs ds ∧ ∀ H', Ex B H' → SqO t K H' a xs := by
  cases t with
  | true =>
    cases h with
    | @tup a xs _ hs hd => exact ⟨a, xs, rfl, hd, fun H' e => st_of (e _ _ hs)⟩
  | false =>
    cases h with
    | @lst a xs _ hs hd => exact ⟨a, xs, rfl, hd, fun H' e => ex_l e hs⟩
/-- read at one world: the one reading of it -/
theorem sqO_one {t : Bool} {H' : Hp} {a : Addr} {i : Nat} {x : V} {xs : List V} (f : ∀ ys, SqO t K H' a ys → ys[i]? = some x) (h : SqO t K H' a xs) : xs[i]? = some x := f xs h
theorem wk_zipO {t u : Bool} (h : EvAD K tA σ B [seqD t ds, seqD u es]) : WkD K (iZipO t u K tA) σ B (zipD ds es) := fun S H w R k => h.bind w fun vs B1 H1 e1 eB1 w1 rs => by
  obtain ⟨v1, v2, rfl, h1, h2⟩ := two_args rs
  obtain ⟨a, xs, rfl, hx, sx⟩ := dq_seqO h1
  obtain ⟨b, ys, rfl, hy, sy⟩ := dq_seqO h2
  have lx := DqAll.length hx
  have ly := DqAll.length hy
  have lz : (zipD ds es).length = min ds.length es.length := by
    unfold zipD
    rw [List.length_map, List.length_zip]
  refine ⟨a, b, xs, ys, rfl, sx _ w1.ex, sy _ w1.ex, k _ B1 H1 e1 eB1 w1 (fun i H' e hi => ?_) (fun i H' e hi => ⟨xs, ys, sx _ e, sy _ e, by omega⟩) fun i S' B' H' x H'' eB w' hi y => ?_⟩
  · exact ⟨xs, ys, _, _, sx _ e, sy _ e, List.getElem?_eq_getElem (show i < xs.length by omega), List.getElem?_eq_getElem (show i < ys.length by omega)⟩
  · obtain ⟨T, x1, y1, rfl, hT, rfl, f1, f2⟩ := y
    have g1 := f1 _ (sx _ (eB.trans w'.ex))
    have g2 := f2 _ (sy _ (eB.trans w'.ex))
    obtain ⟨d1, p1, q1⟩ := DqAll.get hx g1
    obtain ⟨d2, p2, q2⟩ := DqAll.get hy g2
    have eN := w'.newE (o := .tup [x1, y1]) hT
    refine ⟨upd B' T (.tup [x1, y1]), Ex.new hT, eN, w'.new hT, .tuple [d1, d2], ?_, .tup upd_same (.cons (Dq.mono (eB.trans eN) q1) (.cons (Dq.mono (eB.trans eN) q2) .nil))⟩
    unfold zipD
    rw [List.getElem?_map, List.getElem?_zip_eq_some (z := (d1, d2)) |>.mpr ⟨p1, p2⟩]
    rfl
def enumD (ds : List PyData) : List PyData := (ds.zipIdx).map fun p => .tuple [.int p.2, p.1]
theorem wk_enumO {t : Bool} (h : EvAD K tA σ B [seqD t ds]) : WkD K (iEnumO t K tA) σ B (enumD ds) := fun S H w R k => h.bind w fun vs B1 H1 e1 eB1 w1 rs => by
  cases rs with
  | cons h1 r =>
  cases r
  obtain ⟨a, xs, rfl, hx, sx⟩ := dq_seqO h1
  have lx := DqAll.length hx
  have lz : (enumD ds).length = ds.length := by
    unfold enumD
    rw [List.length_map, List.length_zipIdx]
  refine ⟨a, xs, rfl, sx _ w1.ex, k _ B1 H1 e1 eB1 w1 (fun i H' e hi => ?_) (fun i H' e hi => ⟨xs, sx _ e, by omega⟩) fun i S' B' H' x H'' eB w' hi y => ?_⟩
  · exact ⟨xs, _, sx _ e, List.getElem?_eq_getElem (show i < xs.length by omega)⟩
  · obtain ⟨T, x1, rfl, hT, rfl, f1⟩ := y
    have g1 := f1 _ (sx _ (eB.trans w'.ex))
    obtain ⟨d1, p1, q1⟩ := DqAll.get hx g1
    have eN := w'.newE (o := .tup [.int (i : Nat), x1]) hT
    refine ⟨upd B' T (.tup [.int (i : Nat), x1]), Ex.new hT, eN, w'.new hT, .tuple [.int (i : Nat), d1], ?_, .tup upd_same (.cons (.int _) (.cons (Dq.mono (eB.trans eN) q1) .nil))⟩
    unfold enumD
    rw [List.getElem?_map, List.getElem?_zipIdx, p1]
    simp
end
end Pw

/-! ## PwPos -/
namespace Pw
open PySem L2 Evl

/-- lists and tuples walked within a comprehension -/
theorem pi_listK {X : Cx} {tg iter : Expr} {te : TE} (K : PySem.W.Frag) (hK : X.K = K) (h : PE X iter te) : PI X tg iter (iList K te) := hK ▸ pi_list h
theorem pi_tupK {X : Cx} {tg iter : Expr} {te : TE} (K : PySem.W.Frag) (hK : X.K = K) (h : PE X iter te) : PI X tg iter (iTup K te) := hK ▸ pi_tup h

/-! ### dicts of ints to ints, sorted ints, walks over lists or tuples -/
def DMap (m : List (Int × Int)) (v : V) (B : Hp) : Prop := ∃ a kvs, v = .ref a ∧ B a = some (.dK kvs) ∧ ∀ p ∈ m, valV kvs (.inl p.1) = some (.int p.2)
theorem stays_dmap {m : List (Int × Int)} : Stays (DMap m) := fun v B B' e ⟨a, kvs, h1, h2, h3⟩ => ⟨a, kvs, h1, e _ _ h2, h3⟩
theorem merge_at : ∀ (l acc : List (Key × V)) (k : Key) (v : V), (l.map (·.1)).Nodup → (k, v) ∈ l → valV (mergeK acc l) k = some v
  | [], _, _, _, _, h => by cases h
  | q :: r, acc, k, v, hn, h => by
    rw [List.map_cons, List.nodup_cons] at hn
    show valV (mergeK (putK acc q.1 q.2) r) k = some v
    rcases List.mem_cons.mp h with h | h
    · subst h
      have keep : ∀ (l acc : List (Key × V)), ¬ k ∈ l.map (·.1) → valV acc k = some v → valV (mergeK acc l) k = some v := by
        intro l
        induction l with
        | nil => exact fun acc _ h => h
        | cons y r ih =>
          intro acc hm h
          rw [List.map_cons, List.mem_cons, not_or] at hm
          refine ih (putK acc y.1 y.2) hm.2 ?_
          rw [valV_put, if_neg hm.1]
          exact h
      exact keep r _ hn.1 (by rw [valV_put, if_pos rfl])
    · exact merge_at r _ k v hn.2 h
section
variable {K : PySem.W.Frag} {σ : L2.St} {B H : Hp} {S : List Addr} {ta tb td ty te : TE} {tA : TA} {ds es : List PyData}
theorem pairs_dm : ∀ {m : List (Int × Int)} {xs : List V}, DqAll K B xs (m.map fun p => .tuple [.int p.1, .int p.2]) →
    ∃ (ps : List Addr), xs = ps.map V.ref ∧ Paired (fun p (kv : Key × V) => SqT K B p [kV kv.1, kv.2]) ps (m.map fun p => (Sum.inl p.1, V.int p.2))
  | [], _, h => by cases h; exact ⟨[], rfl, .nil⟩
  | k :: m, _, h => by
    cases h with
    | cons h1 h2 =>
    obtain ⟨ps, rfl, h3⟩ := pairs_dm h2
    cases h1 with
    | @tup a ys _ hs hd =>
    have e := DqAll.ints_eq (ns := [k.1, k.2]) hd
    subst e
    exact ⟨a :: ps, rfl, .cons (st_of hs) h3⟩
theorem ev_dmap {m : List (Int × Int)} (hn : (m.map (·.1)).Nodup) (h : EvD K ta σ B (.list (m.map fun p => .tuple [.int p.1, .int p.2]))) : EvR (tCB (rDictP K) (tCons ta tNil)) σ B (DMap m) :=
  evR_of (fun S H w Q q => (ea_cons h ea_nil).bind w fun vs B1 H1 e1 eB1 w1 rs => by
    cases rs with
    | cons r1 r2 =>
    cases r2
    cases r1 with
    | @lst a xs _ hs hd =>
    obtain ⟨ps, rfl, hp⟩ := pairs_dm hd
    refine ⟨a, ps, _, rfl, ex_l w1.ex hs, paired_mono w1.ex hp, fun p hp => q (.ref p) _ _ (e1.trans (Ex.new hp)) (eB1.trans (w1.newE hp)) (w1.new hp) ⟨p, _, rfl, upd_same, fun k hk => ?_⟩⟩
    refine merge_at _ _ _ _ ?_ (List.mem_map.mpr ⟨k, hk, rfl⟩)
    rw [List.map_map]
    exact List.pairwise_map.mpr ((List.pairwise_map.mp hn).imp fun {a b} h e => h (Sum.inl.inj e))) stays_dmap
theorem ev_dgetI {m : List (Int × Int)} {p : Int × Int} (hd : EvR td σ B (DMap m)) (hk : EvD K ty σ B (.int p.1)) (hp : p ∈ m) : EvD K (tDGet td ty) σ B (.int p.2) :=
  evR_of (fun S H w Q q => hd.bind w fun x B1 H1 e1 eB1 w1 ⟨a, kvs, ex, ha, hv⟩ => (hk.mono eB1).bind w1 fun y B2 H2 e2 eB2 w2 ry => by
    cases ry
    subst ex
    refine ⟨a, _, rfl, ?_, q (.int p.2) B2 H2 (e1.trans e2) (eB1.trans eB2) w2 (.int _)⟩
    have g := DGet.k (H := H2) (a := a) (kvs := kvs) (k := .inl p.1) (w2.ex _ _ (eB2 _ _ ha))
    rw [hv p hp] at g
    exact g) stays_dp
/-- sorted(ints) -/
def srt (ns : List Int) : List Int := ns.mergeSort fun a b => decide (a ≤ b)
theorem srt_perm (ns : List Int) : (srt ns).Perm ns := List.mergeSort_perm _ _
theorem srt_len (ns : List Int) : (srt ns).length = ns.length := (srt_perm ns).length_eq
theorem srt_le (ns : List Int) : (srt ns).Pairwise (· ≤ ·) := by
  refine (List.pairwise_mergeSort (le := fun (a b : Int) => decide (a ≤ b)) (fun a b c h1 h2 => ?_) (fun a b => ?_) ns).imp fun {a b} h => of_decide_eq_true h
  · have h1 := of_decide_eq_true h1
    have h2 := of_decide_eq_true h2
    exact decide_eq_true (by omega)
  · rw [Bool.or_eq_true]
    rcases Int.le_total a b with h | h
    · exact .inl (decide_eq_true h)
    · exact .inr (decide_eq_true h)
theorem srt_eq {ns ys : List Int} (h : ys.Perm ns) (s : ys.Pairwise (· ≤ ·)) : ys = srt ns := List.Perm.eq_of_pairwise (fun a b _ _ h1 h2 => Int.le_antisymm h1 h2) s (srt_le ns) (h.trans (srt_perm ns).symm)
theorem ev_srt {ns : List Int} (h : EvD K te σ B (.list (ns.map .int))) : EvD K (tCB (rSortedI K) (tCons te tNil)) σ B (.list ((srt ns).map .int)) :=
  evR_of (fun S H w Q q => h.bind w fun x B1 H1 e1 eB1 w1 rx => by
    cases rx with
    | @lst a xs _ hs hd =>
    have e := DqAll.ints_eq hd
    subst e
    refine ⟨a, ns, rfl, ex_l w1.ex hs, fun ys p hp hs2 hn => ?_⟩
    rw [srt_eq hp hs2]
    exact q (.ref p) _ _ (e1.trans (Ex.new hn)) (eB1.trans (w1.newE (o := .lst ((srt ns).map V.int)) hn)) (w1.new hn) (.lst (sq_of upd_same) DqAll.ints)) stays_dp
theorem wk_enumS {t : Bool} (h : EvAD K tA σ B [seqD t ds]) : WkD K (fun σ H R => iEnumO false K tA σ H R ∨ iEnumO true K tA σ H R) σ B (enumD ds) := by
  cases t with
  | true => exact fun S H w R k => .inr (wk_enumO (t := true) h S H w R k)
  | false => exact fun S H w R k => .inl (wk_enumO (t := false) h S H w R k)
theorem wk_zipS {u : Bool} (h : EvAD K tA σ B [.list ds, seqD u es]) : WkD K (fun σ H R => iZipO false false K tA σ H R ∨ iZipO false true K tA σ H R) σ B (zipD ds es) := by
  cases u with
  | true => exact fun S H w R k => .inr (wk_zipO (t := false) (u := true) h S H w R k)
  | false => exact fun S H w R k => .inl (wk_zipO (t := false) (u := false) h S H w R k)
theorem wk_slS {t : Bool} {tl th : TO} {lo hi : Option Int} (h : EvD K te σ B (seqD t ds)) (hl : EvP tl σ B lo) (hh : EvP th σ B hi) : WkD K (fun σ H R => iList K (tSl (rSlL K) te tl th) σ H R ∨ iTup K (tSl (rSlA K) te tl th) σ H R) σ B (cutA ds lo hi) := by
  cases t with
  | true => exact fun S H w R k => .inr (wk_tup (ev_slA (show EvD K te σ B (.tuple ds) from h) hl hh) S H w R k)
  | false => exact fun S H w R k => .inl (wk_list (ev_slL (show EvD K te σ B (.list ds) from h) hl hh) S H w R k)
end
theorem cutA_take {α : Type} (xs : List α) (k : Nat) : cutA xs none (some ((k : Nat) : Int)) = xs.take k := by
  unfold cutA
  show (xs.drop 0).take (HT.sIx xs.length xs.length (some (k : Int)) - 0) = _
  rw [HT.sIx_nat, List.drop_zero, Nat.sub_zero]
  by_cases h : k ≤ xs.length
  · rw [Nat.min_eq_left h]
  · rw [Nat.min_eq_right (by omega), List.take_of_length_le (Nat.le_refl _), List.take_of_length_le (by omega)]
theorem cutA_drop {α : Type} (xs : List α) (k : Nat) : cutA xs (some ((k : Nat) : Int)) none = xs.drop k := by
  unfold cutA
  show (xs.drop (HT.sIx xs.length 0 (some (k : Int)))).take (xs.length - HT.sIx xs.length 0 (some (k : Int))) = _
  rw [HT.sIx_nat]
  by_cases h : k ≤ xs.length
  · rw [Nat.min_eq_left h]
    exact List.take_of_length_le (by rw [List.length_drop]; exact Nat.le_refl _)
  · rw [Nat.min_eq_right (by omega), List.drop_of_length_le (Nat.le_refl _), List.drop_of_length_le (by omega)]
    simp

/-! ### places open behind each turn of an order -/
def posIn (order : List Int) (p : Int) : Nat := order.idxOf p
def openL (ts : List Tie) (order : List Int) (i : Nat) : List Int := (order.take (i + 1)).filter fun p => (nb ts p).any fun q => decide ((posIn order q : Int) > (i : Int))
def openS (ts : List Tie) (order : List Int) : List (List Int) := (List.range order.length).map fun i => srt (openL ts order i)
def widths (ts : List Tie) (order : List Int) : List Int := (List.range order.length).map fun i => ((openL ts order i).length : Int)
/-- the places, each once -/
structure Order (n : Int) (order : List Int) : Prop where
  perm : order.Perm (rngI 0 n.toNat)
theorem Order.nd {n : Int} {order : List Int} (o : Order n order) : order.Nodup := o.perm.nodup_iff.mpr (rngI_nd _ _)
theorem Order.mem {n : Int} {order : List Int} (o : Order n order) {p : Int} : p ∈ order ↔ 0 ≤ p ∧ p < n := by
  rw [o.perm.mem_iff, rngI_mem]
  omega
theorem Order.len {n : Int} {order : List Int} (o : Order n order) : order.length = n.toNat := by rw [o.perm.length_eq, rngI_len]
theorem openL_len {n : Int} {ts : List Tie} {order : List Int} (o : Order n order) (i : Nat) : (openL ts order i).length ≤ n.toNat := by
  refine Nat.le_trans (List.length_filter_le _ _) ?_
  rw [List.length_take, o.len]
  exact Nat.min_le_right _ _
theorem posIn_at {order : List Int} (hn : order.Nodup) {i : Nat} {p : Int} (h : order[i]? = some p) : posIn order p = i := by
  obtain ⟨hi, e⟩ := List.getElem?_eq_some_iff.mp h
  unfold posIn
  rw [← e]
  exact List.Nodup.idxOf_getElem hn i hi
theorem posIn_get {order : List Int} {p : Int} (h : p ∈ order) : order[posIn order p]? = some p := by
  unfold posIn
  have hl := List.idxOf_lt_length_of_mem h
  rw [List.getElem?_eq_getElem hl]
  exact congrArg some (List.getElem_idxOf hl)
def posM (order : List Int) : List (Int × Int) := order.zipIdx.map fun p => (p.1, (p.2 : Int))
theorem posM_keys (order : List Int) : (posM order).map (·.1) = order := by
  unfold posM
  rw [List.map_map]
  exact List.zipIdx_map_fst 0 order
theorem posM_mem {order : List Int} {p : Int} (h : p ∈ order) : (p, (posIn order p : Int)) ∈ posM order := by
  refine List.mem_map.mpr ⟨(p, posIn order p), ?_, rfl⟩
  exact List.mk_mem_zipIdx_iff_getElem?.mpr (posIn_get h)
end Pw

/-! ## PwFlat -/
namespace Pw
open PySem PySem.Spec PyProof.Rows L2 Evl

/-! ### x in a tuple of data; "if c: xs.append(e)" -/
def rInDT (K : PySem.W.Frag) : R2 := fun x y H Q => ∃ d ds, Dp K H x d ∧ Dp K H y (.tuple ds) ∧ SeqAt.shaped d = true ∧ SeqAt.shaped (.tuple ds) = true ∧ Q (.bl (ds.any fun z => PyData.eqv z d)) H
theorem op_inDT {X : Cx} (hu : X.A.units + 65 < cLine) : OpR X (compareOp .In) (rInDT X.K) := by
  intro pins s σ H x y v u Q I rx ry h
  obtain ⟨d, ds, hd, he, sd, se, q⟩ := h
  obtain ⟨as, r1⟩ := Dp.reads I d x v hd rx
  obtain ⟨bs, r2⟩ := Dp.reads I (.tuple ds) y u he ry
  exact SeqAt.in_tuple_reads r2 r1 (SeqAt.canLay_of_shaped se) (SeqAt.canLay_of_shaped sd) (room_in_shaped sd hu) ⟨.bl _, H, I, rfl, q⟩
section
variable {K : PySem.W.Frag} {σ : L2.St} {B H : Hp} {S : List Addr} {te ta tb : TE} {tt : TT} {d : PyData} {ds : List PyData} {D : Ends}
theorem ev_inDT (ha : EvD K ta σ B d) (hb : EvD K tb σ B (.tuple ds)) (s1 : SeqAt.shaped d = true) (s2 : SeqAt.shaped (.tuple ds) = true) : EvD K (tOp (rInDT K) ta tb) σ B (.bool (ds.any fun z => PyData.eqv z d)) :=
  ev_op ha hb (fun x y B' H' Q hx hy e q => ⟨d, ds, Dq.dp (Dq.mono e hx), Dq.dp (Dq.mono e hy), s1, s2, q _ (.bl _)⟩) stays_dp
theorem st_ifApp {i : Nat} {a : Addr} {ys : List V} {c : Bool} {H0 : Hp} (w : Wd S B H) (hi : σ[i]? = some (some (.ref a))) (hA : H a = some (.lst ys)) (h0 : H0 a = none) (e0 : Ex H0 H) (hm : a ∈ S) (hl : ys.length ≤ 40000) (hc : EvB tt σ B c) (he : c = true → EvD K te σ B d)
    (k : ∀ B' H' vs, Ex H0 H' → Ex B B' → Wd S B' H' → H' a = some (.lst (ys ++ vs)) → DqAll K B' vs (if c = true then [d] else []) → D.nx σ H') : tIfS tt (tDrop (tBM K "list" rAppend (tVar i) (tCons te tNil))) tNext D σ H := by
  refine st_if w hc (fun z B1 H1 e1 eB1 w1 => ?_) (fun z B1 H1 e1 eB1 w1 => ?_)
  · refine st_app w1 hi (e1 _ _ hA) hm hl ((he z).mono eB1) fun v B2 H2 e2 eB2 w2 r => ?_
    refine k B2 _ [v] ((e0.trans (e1.trans e2)).mut h0) (eB1.trans eB2) w2 upd_same ?_
    rw [if_pos z]
    exact .cons r .nil
  · refine st_next (k B1 H1 [] (e0.trans e1) eB1 w1 (by rw [List.append_nil]; exact e1 _ _ hA) ?_)
    rw [if_neg (by rw [z]; decide)]
    exact .nil
end

/-! ### flat webs -/
def cst (p : Nat × Nat) : Int × Int := ((p.1 : Int), (p.2 : Int))
def rowF (w h p : Nat) : List (Nat × Nat) := (if decide ((p + 1) % w > 0) = true then [(p, p + 1)] else []) ++ (if decide (p + w < w * h) = true then [(p, p + w)] else [])
def pairsFN (w h : Nat) : List (Nat × Nat) := (List.range (w * h)).flatMap (rowF w h)
/-- neighbours, as the law looks -/
def nearL (w a b : Nat) : Bool := decide ((((b % w : Nat) : Int) - ((a % w : Nat) : Int), ((b / w : Nat) : Int) - ((a / w : Nat) : Int)) ∈ [((1 : Int), (0 : Int)), (0, 1)])
def rowL (w m a : Nat) : List (Nat × Nat) := (List.range (m - (a + 1))).flatMap fun i => if nearL w a (a + 1 + i) = true then [(a, a + 1 + i)] else []
def pairsLN (w h : Nat) : List (Nat × Nat) := (List.range (w * h)).flatMap (rowL w (w * h))
def pairsF (w h : Nat) : List (Int × Int) := (pairsFN w h).map cst
def turnP (w h : Nat) (p : Nat × Nat) : Nat × Nat := if p.1 / w + h * (p.1 % w) ≤ p.2 / w + h * (p.2 % w) then (p.1 / w + h * (p.1 % w), p.2 / w + h * (p.2 % w)) else (p.2 / w + h * (p.2 % w), p.1 / w + h * (p.1 % w))
structure FlatFacts (w h : Nat) : Prop where
  same : pairsLN w h = pairsFN w h
  turn : ((pairsFN w h).map (turnP w h)).Perm (pairsFN h w)
  ord : (pairsFN w h).Pairwise fun a b => a.1 < b.1 ∨ a.1 = b.1 ∧ a.2 < b.2
  ends : ∀ p ∈ pairsFN w h, p.1 < p.2 ∧ p.2 < w * h ∧ p.2 ≤ p.1 + w
  few : (pairsFN w h).length ≤ 100
instance (w h : Nat) : Decidable (FlatFacts w h) := decidable_of_iff (pairsLN w h = pairsFN w h ∧ ((pairsFN w h).map (turnP w h)).Perm (pairsFN h w) ∧ ((pairsFN w h).Pairwise fun a b => a.1 < b.1 ∨ a.1 = b.1 ∧ a.2 < b.2) ∧ (∀ p ∈ pairsFN w h, p.1 < p.2 ∧ p.2 < w * h ∧ p.2 ≤ p.1 + w) ∧ (pairsFN w h).length ≤ 100)
  ⟨fun ⟨a, b, c, d, e⟩ => ⟨a, b, c, d, e⟩, fun h => ⟨h.1, h.2, h.3, h.4, h.5⟩⟩
theorem flat_all : ∀ w ∈ List.range 7, ∀ h ∈ List.range 7, 0 < w → 0 < h → FlatFacts w h := by decide +kernel
theorem flat_facts {w h : Nat} (hw : 1 ≤ w ∧ w ≤ 6) (hh : 1 ≤ h ∧ h ≤ 6) : FlatFacts w h := flat_all w (List.mem_range.mpr (by omega)) h (List.mem_range.mpr (by omega)) (by omega) (by omega)
/-- pairs with weights -/
def zipT (ps : List (Int × Int)) (ws : List Int) : List Tie := (ps.zip ws).map fun x => (x.1.1, x.1.2, x.2)
def prT (t : Tie) : Int × Int := (t.1, t.2.1)
theorem zipT_pr {ps : List (Int × Int)} {ws : List Int} (h : ps.length ≤ ws.length) : (zipT ps ws).map prT = ps := by
  unfold zipT
  rw [List.map_map]
  exact List.map_fst_zip h
theorem zipT_wt {ps : List (Int × Int)} {ws : List Int} (h : ws.length ≤ ps.length) : (zipT ps ws).map (fun t => t.2.2) = ws := by
  unfold zipT
  rw [List.map_map]
  exact List.map_snd_zip h
theorem zipT_len {ps : List (Int × Int)} {ws : List Int} : (zipT ps ws).length = min ps.length ws.length := by
  unfold zipT
  rw [List.length_map, List.length_zip]
theorem zipT_self : ∀ (ts : List Tie), zipT (ts.map prT) (ts.map fun t => t.2.2) = ts
  | [] => rfl
  | t :: ts => by
    have ih := zipT_self ts
    unfold zipT at ih ⊢
    rw [List.map_cons, List.map_cons, List.zip_cons_cons, List.map_cons, ih]
    rfl
theorem zipT_mem {ps : List (Int × Int)} {ws : List Int} {t : Tie} (h : t ∈ zipT ps ws) : prT t ∈ ps ∧ t.2.2 ∈ ws := by
  unfold zipT at h
  obtain ⟨x, hx, rfl⟩ := List.mem_map.mp h
  exact ⟨(List.of_mem_zip hx).1, (List.of_mem_zip hx).2⟩
theorem pairsF_mem {w h : Nat} (F : FlatFacts w h) {p : Int × Int} (hp : p ∈ pairsF w h) : 0 ≤ p.1 ∧ p.1 < p.2 ∧ p.2 < ((w * h : Nat) : Int) ∧ p.2 ≤ p.1 + (w : Int) := by
  obtain ⟨q, hq, rfl⟩ := List.mem_map.mp hp
  have := F.ends q hq
  show 0 ≤ (q.1 : Int) ∧ (q.1 : Int) < (q.2 : Int) ∧ (q.2 : Int) < ((w * h : Nat) : Int) ∧ (q.2 : Int) ≤ (q.1 : Int) + (w : Int)
  omega
theorem pairsF_ord {w h : Nat} (F : FlatFacts w h) : (pairsF w h).Pairwise fun a b => a.1 < b.1 ∨ a.1 = b.1 ∧ a.2 < b.2 := by
  unfold pairsF
  rw [List.pairwise_map]
  refine F.ord.imp fun {a b} h => ?_
  show (a.1 : Int) < (b.1 : Int) ∨ (a.1 : Int) = (b.1 : Int) ∧ (a.2 : Int) < (b.2 : Int)
  omega
theorem flat_web {w h : Nat} {ws : List Int} (F : FlatFacts w h) (h1 : 1 ≤ w ∧ 1 ≤ h) (hl : ws.length = (pairsF w h).length) (hw : ∀ x ∈ ws, 1 ≤ x) : WebOk ((w * h : Nat) : Int) (zipT (pairsF w h) ws) := by
  refine ⟨?_, fun t ht => ?_, ?_, ?_⟩
  · have := Nat.mul_pos h1.1 h1.2
    omega
  · obtain ⟨g1, g2⟩ := zipT_mem ht
    have h3 : 0 ≤ t.1 ∧ t.1 < t.2.1 ∧ t.2.1 < ((w * h : Nat) : Int) ∧ t.2.1 ≤ t.1 + (w : Int) := pairsF_mem F g1
    have h4 := hw _ g2
    omega
  · have p := pairsF_ord F
    rw [← zipT_pr (ps := pairsF w h) (ws := ws) (by omega), List.pairwise_map] at p
    exact p
  · rw [zipT_len]
    have := F.few
    have e : (pairsF w h).length = (pairsFN w h).length := List.length_map _
    omega
/-! #### turned -/
def turnT (w h : Nat) (t : Tie) : Tie :=
  if t.1 / (w : Int) + (h : Int) * (t.1 % (w : Int)) ≤ t.2.1 / (w : Int) + (h : Int) * (t.2.1 % (w : Int)) then (t.1 / (w : Int) + (h : Int) * (t.1 % (w : Int)), t.2.1 / (w : Int) + (h : Int) * (t.2.1 % (w : Int)), t.2.2)
  else (t.2.1 / (w : Int) + (h : Int) * (t.2.1 % (w : Int)), t.1 / (w : Int) + (h : Int) * (t.1 % (w : Int)), t.2.2)
theorem place_cast (w h a : Nat) : (a : Int) / (w : Int) + (h : Int) * ((a : Int) % (w : Int)) = ((a / w + h * (a % w) : Nat) : Int) := by
  rw [← Int.natCast_ediv, ← Int.natCast_emod, ← Int.natCast_mul, ← Int.natCast_add]
theorem turn_pr {w h : Nat} {t : Tie} {p : Nat × Nat} (e : prT t = cst p) : prT (turnT w h t) = cst (turnP w h p) := by
  obtain ⟨a, b, x⟩ := t
  unfold prT cst at e
  simp only [Prod.mk.injEq] at e
  obtain ⟨rfl, rfl⟩ := e
  unfold turnT turnP
  simp only [place_cast]
  by_cases c : p.1 / w + h * (p.1 % w) ≤ p.2 / w + h * (p.2 % w)
  · rw [if_pos c, if_pos (by omega)]
    rfl
  · rw [if_neg c, if_neg (by omega)]
    rfl
theorem turned_eq {w h : Nat} {ws : List Int} {us : List Tie} (F : FlatFacts w h) (G : FlatFacts h w) (hl : ws.length = (pairsF w h).length) (hs : SortsTo (((zipT (pairsF w h) ws).map (turnT w h)).map tieL) (us.map tieL)) :
    us = zipT (pairsF h w) (us.map fun t => t.2.2) ∧ us.length = (pairsF h w).length ∧ ∀ x ∈ us.map (fun t => t.2.2), x ∈ ws := by
  have inj : us.Perm ((zipT (pairsF w h) ws).map (turnT w h)) := by
    have g : ∀ l : List Tie, (l.map tieL).map (fun l => (l.getD 0 0, l.getD 1 0, l.getD 2 0)) = l := fun l => by
      rw [List.map_map]
      exact (List.map_congr_left fun t _ => rfl).trans (List.map_id l)
    have p := hs.1.map fun l => (l.getD 0 0, l.getD 1 0, l.getD 2 0)
    rw [g, g] at p
    exact p
  have e1 : ((zipT (pairsF w h) ws).map (turnT w h)).map prT = ((pairsFN w h).map (turnP w h)).map cst := by
    have e2 : (zipT (pairsF w h) ws).map prT = (pairsFN w h).map cst := zipT_pr (by omega)
    have : ∀ (ts : List Tie) (ps : List (Nat × Nat)), ts.map prT = ps.map cst → (ts.map (turnT w h)).map prT = (ps.map (turnP w h)).map cst := by
      intro ts
      induction ts with
      | nil =>
        intro ps e
        cases ps with
        | nil => rfl
        | cons p r => cases e
      | cons t ts ih =>
        intro ps e
        cases ps with
        | nil => cases e
        | cons p r =>
          rw [List.map_cons, List.map_cons, List.cons.injEq] at e
          rw [List.map_cons, List.map_cons, List.map_cons, List.map_cons, ih r e.2, turn_pr e.1]
    exact this _ _ e2
  have p1 : (us.map prT).Perm (pairsF h w) := by
    refine (inj.map prT).trans ?_
    rw [e1]
    exact F.turn.map cst
  have s1 : (us.map prT).Pairwise (fun a b => a.1 < b.1 ∨ a.1 = b.1 ∧ a.2 ≤ b.2) := List.pairwise_map.mpr ((List.pairwise_map.mp hs.2).imp fun {s t} h => tie_le h)
  have s2 : (pairsF h w).Pairwise (fun a b => a.1 < b.1 ∨ a.1 = b.1 ∧ a.2 ≤ b.2) := (pairsF_ord G).imp fun {a b} h => by omega
  have e : us.map prT = pairsF h w := List.Perm.eq_of_pairwise (fun a b _ _ h1 h2 => by
    have : a.1 = b.1 ∧ a.2 = b.2 := by omega
    exact Prod.ext this.1 this.2) s1 s2 p1
  refine ⟨?_, ?_, fun x hx => ?_⟩
  · rw [← e]
    exact (zipT_self us).symm
  · rw [← e, List.length_map]
  · obtain ⟨t, ht, rfl⟩ := List.mem_map.mp hx
    obtain ⟨s, hs', rfl⟩ := List.mem_map.mp (inj.mem_iff.mp ht)
    have := (zipT_mem hs').2
    unfold turnT
    split <;> exact this
/-! #### the width of the order by rows -/
theorem rng_idx {n : Nat} {p : Int} (h : p ∈ rngI 0 n) : (posIn (rngI 0 n) p : Int) = p := by
  have hm := rngI_mem.mp h
  have := posIn_at (rngI_nd 0 n) (i := p.toNat) (p := p) (by rw [rngI_get (by omega)]; congr 1; omega)
  omega
theorem flat_open {w h : Nat} {ts : List Tie} (F : FlatFacts w h) (hts : ∀ t ∈ ts, prT t ∈ pairsF w h) {i : Nat} (hi : i < w * h) : (openL ts (rngI 0 (w * h)) i).length ≤ w := by
  have hin : ∀ p ∈ openL ts (rngI 0 (w * h)) i, (i : Int) - (w : Int) < p ∧ p ≤ (i : Int) := fun p hp => by
    unfold openL at hp
    rw [List.mem_filter, List.any_eq_true] at hp
    obtain ⟨hp1, q, hq, hgt⟩ := hp
    have hgt := of_decide_eq_true hgt
    have hpr := List.mem_of_mem_take hp1
    obtain ⟨j, hj⟩ := List.getElem?_of_mem hp1
    have hjl : j < i + 1 := by
      have := (List.getElem?_eq_some_iff.mp hj).1
      rw [List.length_take] at this
      omega
    rw [List.getElem?_take_of_lt hjl, rngI_get (by omega)] at hj
    have hj := Option.some.inj hj
    unfold nb at hq
    obtain ⟨t, ht, c⟩ := List.mem_flatMap.mp hq
    have c : t.1 = p ∧ q = t.2.1 ∨ t.2.1 = p ∧ q = t.1 := by
      split at c
      · rename_i z
        exact .inl ⟨z, List.mem_singleton.mp c⟩
      · split at c
        · rename_i z
          exact .inr ⟨z, List.mem_singleton.mp c⟩
        · cases c
    have hb := pairsF_mem F (hts t ht)
    have hb : 0 ≤ t.1 ∧ t.1 < t.2.1 ∧ t.2.1 < ((w * h : Nat) : Int) ∧ t.2.1 ≤ t.1 + (w : Int) := hb
    have hqr : (posIn (rngI 0 (w * h)) q : Int) = q := rng_idx (rngI_mem.mpr (by omega))
    omega
  have hnd : (openL ts (rngI 0 (w * h)) i).Nodup := ((rngI_nd 0 (w * h)).sublist (List.take_sublist _ _)).sublist (List.filter_sublist)
  have h2 := few_in (n := w) (ks := (openL ts (rngI 0 (w * h)) i).map fun p => p - ((i : Int) - (w : Int) + 1)) (List.pairwise_map.mpr (hnd.imp fun {a b} z e => z (by omega))) fun k hk => by
    obtain ⟨p, hp, rfl⟩ := List.mem_map.mp hk
    have := hin p hp
    omega
  rw [List.length_map] at h2
  exact h2
theorem flat_width {w h : Nat} {ts : List Tie} {m : Int} (F : FlatFacts w h) (hts : ∀ t ∈ ts, prT t ∈ pairsF w h) (hm : m ∈ widths ts (rngI 0 (w * h))) : m ≤ (w : Int) := by
  unfold widths at hm
  obtain ⟨i, hi, rfl⟩ := List.mem_map.mp hm
  rw [List.mem_range, rngI_len] at hi
  have := flat_open F hts hi
  omega
theorem map_if1 {α β : Type} (f : α → β) (c : Bool) (x : α) : (if c = true then [x] else []).map f = if c = true then [f x] else [] := by cases c <;> rfl
theorem flatMap_succ {α : Type} (f : Nat → List α) (i : Nat) : (List.range (i + 1)).flatMap f = (List.range i).flatMap f ++ f i := by
  rw [List.range_succ, List.flatMap_append]
  simp
theorem flatMap_len {α : Type} (f : Nat → List α) (c : Nat) (hc : ∀ i, (f i).length ≤ c) : ∀ i, ((List.range i).flatMap f).length ≤ c * i
  | 0 => Nat.zero_le _
  | i + 1 => by
    have h1 := flatMap_len f c hc i
    have h2 := hc i
    rw [flatMap_succ, List.length_append, Nat.mul_succ]
    omega
abbrev pD (p : Nat × Nat) : PyData := pairD (cst p)
theorem zip_pairs (ps : List (Int × Int)) (ws : List Int) : zipD (ps.map pairD) (ws.map PyData.int) = (ps.zip ws).map fun x => .tuple [pairD x.1, .int x.2] := by
  unfold zipD
  rw [List.zip_map, List.map_map]
  rfl
def fFlat (ds : List PyData) (d : PyData) : Prop := ∃ (w h : Nat) (t : Bool) (ws : List Int), ds = [.int (w : Int), .int (h : Int), seqD t (ws.map PyData.int)] ∧ 1 ≤ w ∧ w ≤ 30 ∧ 1 ≤ h ∧ h ≤ 30 ∧ ws.length ≤ 2000 ∧ d = webD ((w * h : Nat) : Int) (zipT (pairsF w h) ws)
theorem args3 {K : PySem.W.Frag} {B : Hp} {vs : List V} {a b c : PyData} (h : DqAll K B vs [a, b, c]) : ∃ v1 v2 v3, vs = [v1, v2, v3] ∧ Dq K B v1 a ∧ Dq K B v2 b ∧ Dq K B v3 c := by
  cases h with
  | cons h1 t => cases t with
    | cons h2 t => cases t with
      | cons h3 t => cases t; exact ⟨_, _, _, rfl, h1, h2, h3⟩
theorem Order.rng (n : Int) : Order n (rngI 0 n.toNat) := ⟨List.Perm.refl _⟩
end Pw

/-! ## PwCallV -/
namespace Pw
open PySem PySem.Spec PyProof.Rows L2 Evl

/-! ### a call of one of some defs: what stands in a list -/
def tDyn (L : List (Addr × Sp)) (tf : TE) (t : TA) : TE := fun σ H Q => tf σ H fun x H1 => ∃ p ∈ L, x = .ref p.1 ∧ t σ H1 fun vs H2 => p.2 vs H2 Q E0
def GoodC (X : Cx) (p : Addr × Sp) : Prop := ∃ (k : Nat) (fd : FuncData) (ps : List Str), FnOk X.prog X.w X.K X.mg X.base CX0 k p.1 fd ps p.2 ∧ Room k X.A ∧ PySem.W.keepIn X.K (.ref p.1) = true ∧ Binds X.K fd ps []
section
variable {X : Cx} {L : List (Addr × Sp)} {k : Nat} {f : Addr} {fd : FuncData} {ps : List Str} {sp : Sp} {fe e : Expr} {es : List Expr} {tf : TE} {t : TA} {pos : Pos}
theorem gnil : ∀ p ∈ ([] : List (Addr × Sp)), GoodC X p := fun p h => by cases h
theorem gcons (F : FnOk X.prog X.w X.K X.mg X.base CX0 k f fd ps sp) (hr : Room k X.A) (hk : PySem.W.keepIn X.K (.ref f) = true) (hb : Binds X.K fd ps []) (h : ∀ p ∈ L, GoodC X p) : ∀ p ∈ (f, sp) :: L, GoodC X p := fun p hp => by
  rcases List.mem_cons.mp hp with rfl | hp
  · exact ⟨k, fd, ps, F, hr, hk, hb⟩
  · exact h p hp
theorem pe_callV (hL : ∀ p ∈ L, GoodC X p) (hf : PE X fe tf) (ha : PA X (e :: es) t)
    (h1 : eval (.Call fe (e :: es) [] pos) X.env = (do callWith pos (← eval fe X.env) [] (backTo pos (starEach (e :: es) X.env)) (backToKw pos (keywordEach [] X.env))) := by rfl)
    (h2 : starEach (e :: es) X.env = (false, eval e X.env) :: starEach es X.env := by rfl) (h3 : (backTo pos (starEach es X.env)).any (·.1) = false := by rfl) : PE X (.Call fe (e :: es) [] pos) (tDyn L tf t) :=
  ⟨fun pins s σ H Q I h => Call_ (thn (hf.run pins s σ H _ I h) fun u s1 ⟨x, HH, I1, rx, p, hp, ex, q⟩ => by
    subst ex
    obtain ⟨kk, fd', ps', F, hr, hk, hb⟩ := hL p hp
    obtain rfl : u = Value.ref p.1 := rx
    exact PySem.W.callWith_K (h₀ := X.base) I1.ok.mod.kin hk (thn (ha.run pos pins s1 σ HH _ I1 q) fun us s2 ⟨vs, HI, I2, rv, q2⟩ => ⟨I2.kIn, run_fn (dvs := []) F hr hb .nil pass0 I2 rv (by rw [List.append_nil]; exact q2)⟩) h2 h3) h1⟩
end

/-! ### len(set(ints)) -/
def tLenSet (K : PySem.W.Frag) (ta : TE) : TE := fun σ H Q => ta σ H fun x H1 => ∃ (l : Addr) (ns : List Int), x = V.ref l ∧ SqL K H1 l (ns.map V.int) ∧ ns.length ≤ 4000 ∧ ∀ ds : List Int, ds.Nodup → (∀ k, k ∈ ds ↔ k ∈ ns) → Q (.int ds.length) H1
theorem met_nd (val : Nat → Int) : ∀ i, (PyProof.Rows.firstMet val i).Nodup
  | 0 => List.nodup_nil
  | i + 1 => by
    have ih := met_nd val i
    rw [PyProof.Rows.firstMet_succ]
    unfold PyProof.Rows.step_dedup
    split
    · exact ih
    · rename_i c
      refine List.nodup_append.mpr ⟨ih, by simp, fun a ha b hb z => c ?_⟩
      rw [List.any_eq_true]
      exact ⟨a, ha, by rw [z, List.mem_singleton.mp hb]; exact beq_self_eq_true _⟩
theorem met_mem (ns : List Int) (k : Int) : k ∈ PyProof.Rows.firstMet (fun i => ns.getD i 0) ns.length ↔ k ∈ ns := by
  have h := PyProof.Rows.firstMet_any (fun i => ns.getD i 0) ns.length k
  have e : (List.range ns.length).map (fun i => ns.getD i 0) = ns := by
    refine List.ext_getElem (by simp) fun i h1 h2 => ?_
    simp [h2]
  rw [e] at h
  have m : ∀ l : List Int, (l.any (· == k)) = true ↔ k ∈ l := fun l => by
    rw [List.any_eq_true]
    exact ⟨fun ⟨x, hx, z⟩ => by rw [← beq_iff_eq.mp z]; exact hx, fun hk => ⟨k, hk, beq_self_eq_true _⟩⟩
  rw [← m, ← m, h]
theorem pe_lenSet {X : Cx} {a : Expr} {ta : TE} {p p2 q pos : Pos} (hc : X.calm = true) (hg : Gl X "len") (hm : X.mg "len" = none) (hg2 : Gl X "set") (hm2 : X.mg "set" = none) (ha : PE X a ta)
    (h1 : starEach [a] X.env = (false, eval a X.env) :: starEach [] X.env := by rfl) : PE X (.Call (.Name "len" p) [.Call (.Name "set" p2) [a] [] q] [] pos) (tLenSet X.K ta) :=
  ⟨fun pins s σ H Q I h => Call_ (ld_blt I hg hm PySem.boot_len (PyProof.Rows.callWith_builtin1 (PyProof.Rows.args_cons (Call_ (ld_blt I hg2 hm2 PyProof.Rows.boot_set (PyProof.Rows.callWith_type1 (PyProof.Rows.args_cons (thn (ha.run pins s σ H _ I h) fun v s1 ⟨x, HH, I1, rx, l, ns, ex, hq, hl, q1⟩ => PyProof.Rows.args_nil (by
    subst ex
    cases rx
    obtain ⟨its, r, pl, hz⟩ := I1.list hq
    have hsz : its.toArray.size = ns.length := by rw [List.size_toArray, ← r.length, List.length_map]
    exact call_set_list (I1.ok.hd hc) pl.isList (ns := ns) (by simpa using r.ints) (by rw [hsz]; show ns.length + 1 < 4096; omega) fun hh tk hS hk => PyProof.Rows.args_nil (by
      rw [hsz] at hS
      obtain ⟨o, es, ep, tt, ho, hex, hd, _, _, _, hf, hn⟩ := hS
      have I2 : Inv X pins σ HH { s1 with heap := hh, toks := tk } := I1.kept fun b o e => hk b o (Heap.lt_size e) e
      have hfew := PyProof.Rows.firstMet_length_le (fun i => ns.getD i 0) ns.length
      exact call_len_set ho hex hd hf (by rw [hn]; omega) ⟨.int (PyProof.Rows.firstMet (fun i => ns.getD i 0) ns.length).length, HH, I2.tok _, ⟨_, by rw [hn]⟩, q1 _ (met_nd _ _) (met_mem ns)⟩))) h1) h1 rfl))) rfl) rfl rfl))⟩
section
variable {K : PySem.W.Frag} {σ : L2.St} {B H : Hp} {S : List Addr} {te : TE}
theorem ev_lenSet {ns ds : List Int} (h : EvD K te σ B (.list (ns.map .int))) (hl : ns.length ≤ 4000) (hd : ds.Nodup) (hm : ∀ k, k ∈ ds ↔ k ∈ ns) : EvD K (tLenSet K te) σ B (.int (ds.length : Nat)) :=
  evR_of (fun S H w Q q => h.bind w fun x B1 H1 e1 eB1 w1 rx => by
    cases rx with
    | @lst a xs _ hs hdd =>
    have e := DqAll.ints_eq hdd
    subst e
    refine ⟨a, ns, rfl, ex_l w1.ex hs, hl, fun ds2 g1 g2 => ?_⟩
    have e2 : ds2.length = ds.length := ((List.perm_ext_iff_of_nodup g1 hd).mpr fun k => (g2 k).trans (hm k).symm).length_eq
    rw [e2]
    exact q _ B1 H1 e1 eB1 w1 (.int _)) stays_dp
theorem ev_revL {ds : List PyData} (h : EvD K te σ B (.list ds)) : EvD K (tRevL K te) σ B (.list ds.reverse) :=
  evR_of (fun S H w Q q => h.bind w fun x B1 H1 e1 eB1 w1 rx => by
    cases rx with
    | @lst a xs _ hs hd =>
    have hr : ∀ {vs : List V} {ds : List PyData}, DqAll K B1 vs ds → DqAll K B1 vs.reverse ds.reverse := by
      intro vs
      induction vs with
      | nil => intro ds h; cases h; exact .nil
      | cons v vs ih =>
        intro ds h
        cases h with
        | cons h1 h2 =>
          rw [List.reverse_cons, List.reverse_cons]
          exact DqAll.snoc (ih h2) h1
    exact ⟨a, xs, rfl, ex_l w1.ex hs, fun p hp => q (.ref p) _ _ (e1.trans (Ex.new hp)) (eB1.trans (w1.newE (o := .lst xs.reverse) hp)) (w1.new hp) (.lst (sq_of upd_same) (DqAll.mono (w1.newE hp) (hr hd)))⟩) stays_dp
end
end Pw

/-! ## PwOwn -/
namespace Pw
open PySem L2 Evl
section
variable {K : PySem.W.Frag} {σ : L2.St} {B H H' : Hp} {S : List Addr} {b : Addr} {k m c : Nat} {te ta tb tl : TE} {tt : TT} {tA : TA} {wi : TI} {g : TG} {R R' : V → Hp → Prop} {ds es : List PyData} {tu : TS} {D : Ends}
/-- [e for x in l if t]: a list of one's own -/
theorem lc_ownP {α : Type} (l : List α) (enc : α → PyData) (f : α → Bool) (e : α → PyData) {vs : List Nat} (hk : WkD K wi σ B (l.map enc)) (hl : l.length ≤ 40000) (turn : ∀ a ∈ l, TurnLc K g tt te σ vs B (enc a) (f a) (e a))
    (w : Wd S B H) {Q : VK} (q : ∀ a xs B' H', H a = none → Ex H H' → Ex B B' → Wd (a :: S) B' H' → H' a = some (.lst xs) → DqAll K B' xs ((l.filter f).map e) → Q (.ref a) H') : tLc wi g tt te vs σ H Q := by
  refine hk S H w _ fun J B1 H1 e1 eB1 w1 hgo hstop hyld Dl hD => ?_
  rw [List.length_map] at hgo hstop hyld
  refine ⟨fun i m H' => m = l.length - i ∧ i ≤ l.length ∧ Ex H1 H' ∧ ∃ B' acc, Ex B1 B' ∧ Wd (Dl :: S) B' H' ∧ H' Dl = some (.lst acc) ∧ DqAll K B' acc (((l.take i).filter f).map e), ⟨l.length, by omega, Nat.zero_le _, Ex.new hD, B1, [], Ex.refl _, w1.own hD, upd_same, .nil⟩, ?_⟩
  rintro i m H2 ⟨rfl, hi, eH, B2, acc, eB2, w2, hA, hd⟩
  by_cases hlt : i < l.length
  · obtain ⟨a, ha⟩ : ∃ a, l[i]? = some a := ⟨l[i], List.getElem?_eq_getElem hlt⟩
    have hmem : a ∈ l := List.mem_of_getElem? ha
    refine .inr ⟨hgo i H2 (eB2.trans w2.ex) hlt, fun H' => ∃ B', ∃ acc, Ex H1 H' ∧ Ex B1 B' ∧ Wd (Dl :: S) B' H' ∧ H' Dl = some (.lst acc) ∧ DqAll K B' acc (((l.take (i + 1)).filter f).map e), fun H' ⟨B', acc, h1, h2, h3, h4, h5⟩ => ⟨l.length - (i + 1), by omega, rfl, by omega, h1, B', acc, h2, h3, h4, h5⟩, fun x H3 hy => ?_⟩
    obtain ⟨B3, e3, eB3, w3, d, hd1, hd2⟩ := hyld i (Dl :: S) B2 H2 x H3 eB2 w2 hlt hy
    have ed : enc a = d := by
      rw [List.getElem?_map, ha] at hd1
      exact Option.some.inj hd1
    subst ed
    have htk : l.take (i + 1) = l.take i ++ [a] := by rw [List.take_add_one, ha]; rfl
    have hA3 := e3 _ _ hA
    refine turn a hmem x (Dl :: S) B3 H3 (eB1.trans (eB2.trans eB3)) w3 hd2 _ _ (fun hf y B4 H4 e4 eB4 w4 hy4 => ?_) (fun hf B4 H4 e4 eB4 w4 => ?_)
    · have hlen : acc.length ≤ l.length := by
        rw [DqAll.length hd, List.length_map]
        refine Nat.le_trans (List.length_filter_le _ _) ?_
        rw [List.length_take]
        exact Nat.min_le_right _ _
      refine ⟨acc, e4 _ _ hA3, sz_lt (by omega), B4, acc ++ [y], ?_, eB2.trans (eB3.trans eB4), w4.put List.mem_cons_self, upd_same, ?_⟩
      · exact (eH.trans (e3.trans e4)).mut hD
      · rw [htk, List.filter_append, List.filter_cons, if_pos hf, List.map_append]
        exact DqAll.snoc (DqAll.mono (eB3.trans eB4) hd) hy4
    · refine ⟨B4, acc, eH.trans (e3.trans e4), eB2.trans (eB3.trans eB4), w4, e4 _ _ hA3, ?_⟩
      rw [htk, List.filter_append, List.filter_cons, if_neg (by rw [hf]; decide)]
      show DqAll K B4 acc ((List.filter f (l.take i) ++ []).map e)
      rw [List.append_nil]
      exact DqAll.mono (eB3.trans eB4) hd
  · have ei : i = l.length := by omega
    subst ei
    rw [List.take_length] at hd
    exact .inl ⟨hstop _ H2 (eB2.trans w2.ex) rfl, q Dl acc B2 H2 (fresh_back e1 hD) (e1.trans eH) (eB1.trans eB2) w2 hA hd⟩
theorem ev_lcDL {α : Type} (l : List α) (enc : α → PyData) (f : α → Bool) (e : α → PyData) {vs : List Nat} (hk : WkD K wi σ B (l.map enc)) (hl : l.length ≤ 40000) (turn : ∀ a ∈ l, TurnLc K g tt te σ vs B (enc a) (f a) (e a)) :
    EvR (tLc wi g tt te vs) σ B (DL K ((l.filter f).map e)) :=
  evR_of (fun S H w Q q => lc_ownP l enc f e hk hl turn w fun a xs B1 H1 ha e1 eB1 w1 hA hd => q (.ref a) _ H1 e1 (eB1.trans w1.giveE) (w1.give hA (w.nin ha)) ⟨a, xs, rfl, upd_same, DqAll.mono w1.giveE hd⟩) stays_DL
/-- .. of which a part draws -/
theorem lc_own {α β : Type} (l : List α) (enc : α → PyData) (encY : β → PyData) (Pr : Nat → List β → Prop) {vs : List Nat} (hk : WkD K wi σ B (l.map enc)) (hl : l.length ≤ 40000) (h0 : Pr 0 []) (hlen : ∀ i ys, Pr i ys → ys.length ≤ i)
    (turn : ∀ i a ys, l[i]? = some a → Pr i ys → ∀ x S' B' H' c', Ex B B' → Wd S' B' H' → b ∈ S' → BoxAt H' b c' → c' + k ≤ lid → Dq K B' x (enc a) → ∀ (Qy : VK) (Qn : Hp → Prop),
      (∀ y yv B2 H2, Xs [b] H' H2 → BoxAt H2 b (c' + k) → Wd S' B2 H2 → Ex B' B2 → Dq K B2 yv (encY y) → Pr (i + 1) (ys ++ [y]) → Qy yv H2) → (Pr (i + 1) ys → ∀ B2 H2, Xs [b] H' H2 → BoxAt H2 b (c' + k) → Wd S' B2 H2 → Ex B' B2 → Qn H2) →
      g x (wipe σ vs) H' fun σ2 H2 => wipe σ2 vs = wipe σ vs ∧ tt σ2 H2 fun b H3 => if b = true then te σ2 H3 Qy else Qn H3)
    (w : Wd S B H) (hb : b ∈ S) (hB : BoxAt H b c) (hlid : c + l.length * k ≤ lid) {Q : VK} (q : ∀ a xs ys B' H', H a = none → Xs [b] H H' → BoxAt H' b (c + l.length * k) → Ex B B' → Wd (a :: S) B' H' → H' a = some (.lst xs) → Pr l.length ys → DqAll K B' xs (ys.map encY) → Q (.ref a) H') : tLc wi g tt te vs σ H Q := by
  refine hk S H w _ fun J B1 H1 e1 eB1 w1 hgo hstop hyld Dl hD => ?_
  rw [List.length_map] at hgo hstop hyld
  have nbD : Dl ≠ b := fun z => by
    obtain ⟨o, ho⟩ := (hB.ex e1).some
    rw [← z, hD] at ho
    cases ho
  refine ⟨fun i m H' => m = l.length - i ∧ i ≤ l.length ∧ Xs [b] H1 H' ∧ BoxAt H' b (c + i * k) ∧ ∃ B' acc ys, Ex B1 B' ∧ Wd (Dl :: S) B' H' ∧ H' Dl = some (.lst acc) ∧ Pr i ys ∧ DqAll K B' acc (ys.map encY),
    ⟨l.length, by omega, Nat.zero_le _, Xs.of (Ex.new hD), ((hB.ex e1).ex (Ex.new hD)).mono (by omega), B1, [], [], Ex.refl _, w1.own hD, upd_same, h0, .nil⟩, ?_⟩
  rintro i m H2 ⟨rfl, hi, xH, hB2, B2, acc, ys, eB2, w2, hA, hP, hd⟩
  by_cases hlt : i < l.length
  · obtain ⟨a, ha⟩ : ∃ a, l[i]? = some a := ⟨l[i], List.getElem?_eq_getElem hlt⟩
    have hmul : (i + 1) * k ≤ l.length * k := Nat.mul_le_mul_right k hlt
    have hsuc : (i + 1) * k = i * k + k := Nat.succ_mul i k
    refine .inr ⟨hgo i H2 (eB2.trans w2.ex) hlt, fun H' => Xs [b] H1 H' ∧ BoxAt H' b (c + (i + 1) * k) ∧ ∃ B' acc ys, Ex B1 B' ∧ Wd (Dl :: S) B' H' ∧ H' Dl = some (.lst acc) ∧ Pr (i + 1) ys ∧ DqAll K B' acc (ys.map encY), fun H' ⟨h1, h2, h3⟩ => ⟨l.length - (i + 1), by omega, rfl, by omega, h1, h2, h3⟩, fun x H3 hy => ?_⟩
    obtain ⟨B3, e3, eB3, w3, d, hd1, hd2⟩ := hyld i (Dl :: S) B2 H2 x H3 eB2 w2 hlt hy
    have ed : enc a = d := by
      rw [List.getElem?_map, ha] at hd1
      exact Option.some.inj hd1
    subst ed
    have hA3 := e3 _ _ hA
    have hlen2 : acc.length ≤ 40000 := by
      have := hlen _ _ hP
      rw [DqAll.length hd, List.length_map]
      omega
    refine turn i a ys ha hP x (Dl :: S) B3 H3 (c + i * k) (eB1.trans (eB2.trans eB3)) w3 (List.mem_cons_of_mem _ hb) (hB2.ex e3) (by omega) hd2 _ _ (fun y yv B4 H4 x4 hB4 w4 eB4 hy4 hP4 => ?_) (fun hP4 B4 H4 x4 hB4 w4 eB4 => ?_)
    · have hA4 := x4 _ _ (fun z => nbD (List.mem_singleton.mp z)) hA3
      refine ⟨acc, hA4, sz_lt (by omega), ?_, (hB4.mono (by omega)).upd nbD.symm, B4, acc ++ [yv], ys ++ [y], eB2.trans (eB3.trans eB4), w4.put List.mem_cons_self, upd_same, hP4, ?_⟩
      · intro p o hp ho
        rw [upd_ne (ne_of_none ho hD)]
        exact x4 p o hp (e3 _ _ (xH p o hp ho))
      · rw [List.map_append]
        exact DqAll.snoc (DqAll.mono (eB3.trans eB4) hd) hy4
    · exact ⟨xH.trans ((Xs.of e3).trans x4), hB4.mono (by omega), B4, acc, ys, eB2.trans (eB3.trans eB4), w4, x4 _ _ (fun z => nbD (List.mem_singleton.mp z)) hA3, hP4, DqAll.mono (eB3.trans eB4) hd⟩
  · have ei : i = l.length := by omega
    subst ei
    exact .inl ⟨hstop _ H2 (eB2.trans w2.ex) rfl, q Dl acc ys B2 H2 (fresh_back e1 hD) ((Xs.of e1).trans xH) hB2 (eB1.trans eB2) w2 hA hP hd⟩
end
end Pw

/-! ## PwN -/
namespace Pw
open PySem L2 Evl

theorem one_arg {K : PySem.W.Frag} {B : Hp} {vs : List V} {a : PyData} (h : DqAll K B vs [a]) : ∃ v1, vs = [v1] ∧ Dq K B v1 a := by
  cases h with
  | cons h1 t => cases t; exact ⟨_, rfl, h1⟩
theorem args4 {K : PySem.W.Frag} {B : Hp} {vs : List V} {a b c d : PyData} (h : DqAll K B vs [a, b, c, d]) : ∃ v1 v2 v3 v4, vs = [v1, v2, v3, v4] ∧ Dq K B v1 a ∧ Dq K B v2 b ∧ Dq K B v3 c ∧ Dq K B v4 d := by
  cases h with
  | cons h1 t =>
    obtain ⟨v2, v3, v4, rfl, h2, h3, h4⟩ := args3 t
    exact ⟨_, v2, v3, v4, rfl, h1, h2, h3, h4⟩
theorem args5 {K : PySem.W.Frag} {B : Hp} {vs : List V} {a b c d e : PyData} (h : DqAll K B vs [a, b, c, d, e]) : ∃ v1 v2 v3 v4 v5, vs = [v1, v2, v3, v4, v5] ∧ Dq K B v1 a ∧ Dq K B v2 b ∧ Dq K B v3 c ∧ Dq K B v4 d ∧ Dq K B v5 e := by
  cases h with
  | cons h1 t =>
    obtain ⟨v2, v3, v4, v5, rfl, h2, h3, h4, h5⟩ := args4 t
    exact ⟨_, v2, v3, v4, v5, rfl, h1, h2, h3, h4, h5⟩
theorem args6 {K : PySem.W.Frag} {B : Hp} {vs : List V} {a b c d e f : PyData} (h : DqAll K B vs [a, b, c, d, e, f]) : ∃ v1 v2 v3 v4 v5 v6, vs = [v1, v2, v3, v4, v5, v6] ∧ Dq K B v1 a ∧ Dq K B v2 b ∧ Dq K B v3 c ∧ Dq K B v4 d ∧ Dq K B v5 e ∧ Dq K B v6 f := by
  cases h with
  | cons h1 t =>
    obtain ⟨v2, v3, v4, v5, v6, rfl, h2, h3, h4, h5, h6⟩ := args5 t
    exact ⟨_, v2, v3, v4, v5, v6, rfl, h1, h2, h3, h4, h5, h6⟩

/-! ### what the names are worth: no places in sight -/
/-- a thing of one's own: a list, a dict (its keys told) -/
inductive Shape where
  | lst | dK (ks : List Key) | dT (ks : List (List Key))
def ho : Shape → List V → HO
  | .lst, xs => .lst xs
  | .dK ks, xs => .dK (ks.zip xs)
  | .dT ks, xs => .dT (ks.zip xs)
/-- a name's worth: data; an own thing with its data; the box after c draws; what stays true of it -/
inductive Sl where
  | d (x : PyData) | o (s : Shape) (ds : List PyData) | b (a : Addr) (c : Nat) | q (R : V → Hp → Prop)
abbrev En0 := List (Option Sl)
/-- what stands when a def begins: its world, the places that it may change -/
structure Fr where
  K : PySem.W.Frag
  S : List Addr
  B : Hp
  H : Hp
  bs : List Addr
def SlF (K : PySem.W.Frag) (B : Hp) (v : V) : Sl → Prop
  | .d x => Dq K B v x
  | .o s ds => ∃ a xs, v = .ref a ∧ B a = some (ho s xs) ∧ DqAll K B xs ds
  | .b a _ => v = .ref a
  | .q R => Stays R ∧ R v B
def SlO (F : Fr) (S : List Addr) (B H : Hp) (v : V) : Sl → Prop
  | .d x => Dq F.K B v x
  | .o s ds => ∃ a xs, v = .ref a ∧ a ∈ S ∧ F.H a = none ∧ H a = some (ho s xs) ∧ DqAll F.K B xs ds
  | .b a c => v = .ref a ∧ (a ∈ F.bs ∨ F.H a = none) ∧ a ∈ S ∧ BoxAt H a c
  | .q R => Stays R ∧ R v B
structure EnvF (K : PySem.W.Frag) (B : Hp) (σ : L2.St) (Γ : En0) : Prop where
  len : σ.length = Γ.length
  ok : ∀ (i : Nat) (s : Sl), Γ[i]? = some (some s) → ∃ v, σ[i]? = some (some v) ∧ SlF K B v s
def isO : Option Sl → Bool
  | some (.o _ _) => true
  | some (.b _ _) => true
  | _ => false
structure En (F : Fr) (S : List Addr) (B H : Hp) (σ : L2.St) (Γ : En0) : Prop where
  w : Wd S B H
  sub : ∀ a ∈ F.S, a ∈ S
  eB : Ex F.B B
  xH : Xs F.bs F.H H
  fb : ∀ b ∈ F.bs, b ∈ F.S
  hb0 : ∀ b ∈ F.S, F.H b ≠ none
  len : σ.length = Γ.length
  ok : ∀ (i : Nat) (s : Sl), Γ[i]? = some (some s) → ∃ v, σ[i]? = some (some v) ∧ SlO F S B H v s
  ap : ∀ (i j : Nat) (a : Addr), i ≠ j → (∃ s, Γ[i]? = some s ∧ isO s = true) → (∃ s, Γ[j]? = some s ∧ isO s = true) → σ[i]? = some (some (.ref a)) → σ[j]? ≠ some (some (.ref a))
section
variable {F : Fr} {K : PySem.W.Frag} {S S' : List Addr} {B B' H H' : Hp} {σ : L2.St} {Γ : En0} {i j : Nat} {v : V} {d : PyData} {s : Shape} {ds : List PyData} {a p : Addr} {xs : List V} {c : Nat}
theorem SlO.ext {t : Sl} (eH : Ex H H') (eB : Ex B B') (hS : ∀ a ∈ S, a ∈ S') (h : SlO F S B H v t) : SlO F S' B' H' v t := by
  match t, h with
  | .d x, h => exact Dq.mono eB h
  | .o s ds, ⟨a, xs, h1, h2, h3, h4, h5⟩ => exact ⟨a, xs, h1, hS a h2, h3, eH _ _ h4, DqAll.mono eB h5⟩
  | .b b c, ⟨h1, h2, h3, h4⟩ => exact ⟨h1, h2, hS b h3, h4.ex eH⟩
  | .q R, ⟨h1, h2⟩ => exact ⟨h1, h1 _ _ _ eB h2⟩
theorem En.ext (e : En F S B H σ Γ) (eH : Ex H H') (eB : Ex B B') (w : Wd S B' H') : En F S B' H' σ Γ :=
  ⟨w, e.sub, e.eB.trans eB, e.xH.trans (Xs.of eH), e.fb, e.hb0, e.len, fun i s h => by
    obtain ⟨v, h1, h2⟩ := e.ok i s h
    exact ⟨v, h1, h2.ext eH eB fun a m => m⟩, e.ap⟩
theorem get_set {α : Type} {l : List α} {i j : Nat} {x y : α} (h : (l.set i x)[j]? = some y) : (i = j ∧ y = x ∧ i < l.length) ∨ (i ≠ j ∧ l[j]? = some y) := by
  by_cases e : i = j
  · subst e
    by_cases hl : i < l.length
    · rw [List.getElem?_set_self hl] at h
      exact .inl ⟨rfl, (Option.some.inj h).symm, hl⟩
    · rw [List.getElem?_eq_none (by rw [List.length_set]; omega)] at h
      cases h
  · rw [List.getElem?_set_ne e] at h
    exact .inr ⟨e, h⟩
/-- a name bound anew -/
theorem En.set {t : Sl} (e : En F S B H σ Γ) (h : SlO F S B H v t) (ho : isO (some t) = true → ∀ j a, j ≠ i → (∃ s, Γ[j]? = some s ∧ isO s = true) → v = .ref a → σ[j]? ≠ some (some (.ref a))) : En F S B H (σ.set i (some v)) (Γ.set i (some t)) := by
  refine ⟨e.w, e.sub, e.eB, e.xH, e.fb, e.hb0, by rw [List.length_set, List.length_set]; exact e.len, fun j s hj => ?_, fun j k a hne hj hk h1 h2 => ?_⟩
  · rcases get_set hj with ⟨rfl, hs, hl⟩ | ⟨hne, hj⟩
    · cases hs
      exact ⟨v, by rw [List.getElem?_set_self (by rw [e.len]; exact hl)], h⟩
    · obtain ⟨u, h1, h2⟩ := e.ok j s hj
      exact ⟨u, by rw [List.getElem?_set_ne hne]; exact h1, h2⟩
  · obtain ⟨s1, hj, o1⟩ := hj
    obtain ⟨s2, hk, o2⟩ := hk
    rcases get_set hj with ⟨rfl, hs, hl⟩ | ⟨nj, hj⟩
    · subst hs
      rcases get_set hk with ⟨rfl, _, _⟩ | ⟨nk, hk⟩
      · exact hne rfl
      · rw [List.getElem?_set_self (by rw [e.len]; exact hl)] at h1
        rw [List.getElem?_set_ne nk] at h2
        exact ho o1 k a (fun z => nk z.symm) ⟨s2, hk, o2⟩ (Option.some.inj (Option.some.inj h1)) h2
    · rw [List.getElem?_set_ne nj] at h1
      rcases get_set hk with ⟨rfl, hs, hl⟩ | ⟨nk, hk⟩
      · subst hs
        rw [List.getElem?_set_self (by rw [e.len]; exact hl)] at h2
        exact ho o2 j a (fun z => nj z.symm) ⟨s1, hj, o1⟩ (Option.some.inj (Option.some.inj h2)) h1
      · rw [List.getElem?_set_ne nk] at h2
        exact e.ap j k a hne ⟨s1, hj, o1⟩ ⟨s2, hk, o2⟩ h1 h2
theorem En.setD (e : En F S B H σ Γ) (h : Dq F.K B v d) : En F S B H (σ.set i (some v)) (Γ.set i (some (.d d))) := e.set (t := .d d) h fun z => by cases z
theorem En.freshH (e : En F S B H σ Γ) (h : H p = none) : F.H p = none := by
  cases g : F.H p with
  | none => rfl
  | some o =>
    by_cases m : p ∈ F.bs
    · obtain ⟨u, hu⟩ := e.w.at_ p (e.sub p (e.fb p m))
      rw [hu] at h
      cases h
    · rw [e.xH p o m g] at h
      cases h
theorem En.nbs (e : En F S B H σ Γ) (h : F.H p = none) (hb : ∀ b ∈ F.bs, ∃ o, F.H b = some o) : p ∉ F.bs := fun m => by
  obtain ⟨o, ho⟩ := hb p m
  rw [h] at ho
  cases ho
/-- an own thing otherwise -/
theorem xs_own {bs : List Addr} {H0 : Hp} {o : HO} (x : Xs bs H0 H) (h : H0 a = none) : Xs bs H0 (upd H a o) := fun b u n g => by
  rw [upd_ne (ne_of_none g h)]
  exact x b u n g
/-- a new own thing -/
theorem En.own (e : En F S B H σ Γ) (hp : H p = none) (h : DqAll F.K B xs ds) : En F (p :: S) B (upd H p (ho s xs)) (σ.set i (some (.ref p))) (Γ.set i (some (.o s ds))) := by
  have e1 : En F (p :: S) B (upd H p (ho s xs)) σ Γ := ⟨e.w.own hp, fun a m => List.mem_cons_of_mem _ (e.sub a m), e.eB, e.xH.trans (Xs.of (Ex.new hp)), e.fb, e.hb0, e.len, fun i s h => by
    obtain ⟨v, h1, h2⟩ := e.ok i s h
    exact ⟨v, h1, h2.ext (Ex.new hp) (Ex.refl _) fun a m => List.mem_cons_of_mem _ m⟩, e.ap⟩
  refine e1.set (t := .o s ds) ⟨p, xs, rfl, List.mem_cons_self, e.freshH hp, upd_same, h⟩ fun _ j a hj ⟨u, hu, ou⟩ hv z => ?_
  cases hv
  match u, ou with
  | some (.o s' ds'), _ =>
    obtain ⟨v', h1, ⟨a', xs', h2, h3, h4, h5, h6⟩⟩ := e.ok j _ hu
    rw [h1] at z
    cases z
    cases h2
    rw [hp] at h5
    cases h5
  | some (.b a' c), _ =>
    obtain ⟨v', h1, ⟨h2, h3, h4, h5⟩⟩ := e.ok j _ hu
    rw [h1] at z
    cases z
    cases h2
    obtain ⟨o, ho⟩ := h5.some
    rw [hp] at ho
    cases ho
/-- an own thing changed -/
theorem En.chg {s' : Shape} {ds' : List PyData} {xs' : List V} (e : En F S B H σ Γ) (hi : Γ[i]? = some (some (.o s ds))) (ha : σ[i]? = some (some (.ref a))) (h : DqAll F.K B xs' ds') : En F S B (upd H a (ho s' xs')) σ (Γ.set i (some (.o s' ds'))) := by
  obtain ⟨v, h1, ⟨a1, xs, h2, h3, h4, h5, h6⟩⟩ := e.ok i _ hi
  rw [h1] at ha
  cases ha
  cases h2
  have hl : i < Γ.length := (List.getElem?_eq_some_iff.mp hi).1
  refine ⟨e.w.put h3, e.sub, e.eB, xs_own e.xH h4, e.fb, e.hb0, by rw [List.length_set]; exact e.len, fun j s hj => ?_, fun j k b hne hj hk g1 g2 => ?_⟩
  · rcases get_set hj with ⟨rfl, hs, _⟩ | ⟨hne, hj⟩
    · cases hs
      exact ⟨_, h1, a, xs', rfl, h3, h4, upd_same, h⟩
    · obtain ⟨u, g1, g2⟩ := e.ok j s hj
      refine ⟨u, g1, ?_⟩
      match s, g2, hj with
      | .d x, g2, _ => exact g2
      | .q R, g2, _ => exact g2
      | .o s ds, ⟨b, ys, k1, k2, k3, k4, k5⟩, hj =>
        have : b ≠ a := fun z => by
          subst z
          subst k1
          exact e.ap i j b hne ⟨_, hi, rfl⟩ ⟨_, hj, rfl⟩ h1 g1
        exact ⟨b, ys, k1, k2, k3, by rw [upd_ne this]; exact k4, k5⟩
      | .b b c, ⟨k1, k2, k3, k4⟩, hj =>
        refine ⟨k1, k2, k3, k4.upd fun z => ?_⟩
        subst z
        subst k1
        exact e.ap i j b hne ⟨_, hi, rfl⟩ ⟨_, hj, rfl⟩ h1 g1
  · have key : ∀ {j : Nat}, (∃ s_1, (Γ.set i (some (Sl.o s' ds')))[j]? = some s_1 ∧ isO s_1 = true) → ∃ s_1, Γ[j]? = some s_1 ∧ isO s_1 = true := fun {j} ⟨s, hs, o⟩ => by
      rcases get_set hs with ⟨rfl, _, _⟩ | ⟨_, hs⟩
      · exact ⟨_, hi, rfl⟩
      · exact ⟨s, hs, o⟩
    exact e.ap j k b hne (key hj) (key hk) g1 g2
/-- an own list given away -/
theorem En.give (e : En F S B H σ Γ) (hi : Γ[i]? = some (some (.o .lst ds))) : ∃ S' B', En F S' B' H σ (Γ.set i (some (.d (.list ds)))) ∧ Ex B B' := by
  obtain ⟨v, h1, ⟨a, xs, rfl, h3, h4, h5, h6⟩⟩ := e.ok i _ hi
  have n0 : a ∉ F.S := fun m => e.hb0 a m h4
  have hBa : B a = none := e.w.no a h3
  have eB' : Ex B (upd B a (ho .lst xs)) := Ex.new hBa
  refine ⟨S.filter (fun x => !decide (x = a)), upd B a (ho .lst xs), ⟨⟨fun b u g => ?_, fun b m => ?_, fun b m => e.w.at_ b (List.mem_filter.mp m).1⟩, fun b m => List.mem_filter.mpr ⟨e.sub b m, ?_⟩, e.eB.trans eB', e.xH, e.fb, e.hb0, by rw [List.length_set]; exact e.len, fun j s hj => ?_, fun j k b hne hj hk g1 g2 => ?_⟩, eB'⟩
  · by_cases z : b = a
    · subst z
      rw [upd_same] at g
      rw [h5]
      exact g
    · rw [upd_ne z] at g
      exact e.w.ex b u g
  · obtain ⟨m1, m2⟩ := List.mem_filter.mp m
    have z : b ≠ a := fun z => by simp [z] at m2
    rw [upd_ne z]
    exact e.w.no b m1
  · have z : b ≠ a := fun z => n0 (z ▸ m)
    simp [z]
  · rcases get_set hj with ⟨rfl, hs, _⟩ | ⟨hne, hj⟩
    · cases hs
      exact ⟨_, h1, .lst (sq_of (by show upd B a (ho .lst xs) a = _; rw [upd_same]; rfl)) (DqAll.mono eB' h6)⟩
    · obtain ⟨u, g1, g2⟩ := e.ok j s hj
      refine ⟨u, g1, ?_⟩
      match s, g2, hj with
      | .d x, g2, _ => exact Dq.mono eB' g2
      | .q R, ⟨g2, g3⟩, _ => exact ⟨g2, g2 _ _ _ eB' g3⟩
      | .o s ds, ⟨b, ys, k1, k2, k3, k4, k5⟩, hj =>
        have : b ≠ a := fun z => by
          subst z
          subst k1
          exact e.ap i j b hne ⟨_, hi, rfl⟩ ⟨_, hj, rfl⟩ h1 g1
        exact ⟨b, ys, k1, List.mem_filter.mpr ⟨k2, by simp [this]⟩, k3, k4, DqAll.mono eB' k5⟩
      | .b b c, ⟨k1, k2, k3, k4⟩, hj =>
        have : b ≠ a := fun z => by
          subst z
          subst k1
          exact e.ap i j b hne ⟨_, hi, rfl⟩ ⟨_, hj, rfl⟩ h1 g1
        exact ⟨k1, k2, List.mem_filter.mpr ⟨k3, by simp [this]⟩, k4⟩
  · have key : ∀ {j : Nat}, (∃ s_1, (Γ.set i (some (Sl.d (.list ds))))[j]? = some s_1 ∧ isO s_1 = true) → ∃ s_1, Γ[j]? = some s_1 ∧ isO s_1 = true := fun {j} ⟨s, hs, o⟩ => by
      rcases get_set hs with ⟨rfl, z, _⟩ | ⟨_, hs⟩
      · subst z; cases o
      · exact ⟨s, hs, o⟩
    exact e.ap j k b hne (key hj) (key hk) g1 g2
/-- the names' worth without what is one's own -/
def hide (Γ : En0) : En0 := Γ.map fun s => if isO s then none else s
theorem hide_get {s : Sl} (h : (hide Γ)[i]? = some (some s)) : Γ[i]? = some (some s) ∧ isO (some s) = false := by
  unfold hide at h
  rw [List.getElem?_map] at h
  obtain ⟨t, h1, h2⟩ := Option.map_eq_some_iff.mp h
  by_cases o : isO t = true
  · rw [if_pos o] at h2
    cases h2
  · rw [if_neg o] at h2
    subst h2
    exact ⟨h1, by simpa using o⟩
theorem En.hidden (e : En F S B H σ Γ) : EnvF F.K B σ (hide Γ) := ⟨by unfold hide; rw [List.length_map]; exact e.len, fun i s h => by
  obtain ⟨h1, h2⟩ := hide_get h
  match s, h1, h2 with
  | .d x, h1, _ => exact e.ok i _ h1
  | .q R, h1, _ => exact e.ok i _ h1⟩
/-- what is one's own, held still -/
theorem En.frz (e : En F S B H σ Γ) : ∃ S1 B1, Wd S1 B1 H ∧ Ex B B1 ∧ (∀ t ∈ S, t ∉ S1 → ∃ s xs, H t = some (ho s xs)) ∧ EnvF F.K B1 σ Γ := by
  classical
  let ow : Addr → Prop := fun a => ∃ (i : Nat) (s : Shape) (ds : List PyData), Γ[i]? = some (some (.o s ds)) ∧ σ[i]? = some (some (.ref a))
  have own : ∀ {a}, ow a → a ∈ S ∧ ∃ s xs, H a = some (ho s xs) := fun {a} ⟨i, s, ds, h1, h2⟩ => by
    obtain ⟨v, g1, ⟨b, xs, g2, g3, _, g5, _⟩⟩ := e.ok i _ h1
    rw [g1] at h2
    cases h2
    cases g2
    exact ⟨g3, _, _, g5⟩
  let B1 : Hp := fun a => if ow a then H a else B a
  have eB : Ex B B1 := fun a o g => by
    by_cases z : ow a
    · rw [e.w.no a (own z).1] at g
      cases g
    · show (if ow a then H a else B a) = _
      rw [if_neg z]
      exact g
  refine ⟨S.filter fun a => !decide (ow a), B1, ⟨fun a o g => ?_, fun a m => ?_, fun a m => e.w.at_ a (List.mem_filter.mp m).1⟩, eB, fun t m n => ?_, e.len, fun i s h => ?_⟩
  · have g : (if ow a then H a else B a) = some o := g
    by_cases z : ow a
    · rw [if_pos z] at g
      exact g
    · rw [if_neg z] at g
      exact e.w.ex a o g
  · obtain ⟨m1, m2⟩ := List.mem_filter.mp m
    have z : ¬ ow a := by simpa using m2
    show (if ow a then H a else B a) = none
    rw [if_neg z]
    exact e.w.no a m1
  · by_cases z : ow t
    · exact (own z).2
    · exact absurd (List.mem_filter.mpr ⟨m, by simpa using z⟩) n
  · obtain ⟨v, h1, h2⟩ := e.ok i s h
    refine ⟨v, h1, ?_⟩
    match s, h, h2 with
    | .d x, _, h2 => exact Dq.mono eB h2
    | .q R, _, ⟨g1, g2⟩ => exact ⟨g1, g1 _ _ _ eB g2⟩
    | .b b c, _, ⟨g1, _⟩ => exact g1
    | .o s ds, h, ⟨a, xs, g1, g2, g3, g4, g5⟩ =>
      subst g1
      refine ⟨a, xs, rfl, ?_, DqAll.mono eB g5⟩
      show (if ow a then H a else B a) = _
      rw [if_pos ⟨i, s, ds, h, h1⟩]
      exact g4
end
/-! ### data without lists: no own thing is in them -/
mutual
def noL : PyData → Bool
  | .list _ => false
  | .tuple ds => noLs ds
  | _ => true
def noLs : List PyData → Bool
  | [] => true
  | d :: ds => noL d && noLs ds
end
mutual
theorem Dq.noL {K : PySem.W.Frag} {H : Hp} {S S1 : List Addr} (hS : ∀ t ∈ S, t ∉ S1 → ∃ s xs, H t = some (ho s xs)) : ∀ {v : V} {d : PyData}, Dq K (mi H S1) v d → Pw.noL d = true → Dq K (mi H S) v d
  | _, _, .non, _ => .non
  | _, _, .bl b, _ => .bl b
  | _, _, .int i, _ => .int i
  | _, _, .str x, _ => .str x
  | _, _, .lst _ _, h => by simp [Pw.noL] at h
  | _, _, .tup (a := a) (xs := xs) h1 h2, h => by
    have hn : a ∉ S1 := fun m => by rw [mi_no m] at h1; cases h1
    rw [mi_at hn] at h1
    have hn2 : a ∉ S := fun m => by
      obtain ⟨s, ys, e⟩ := hS a m hn
      rw [h1] at e
      cases s <;> cases e
    exact .tup (by rw [mi_at hn2]; exact h1) (DqAll.noL hS h2 (by simpa [Pw.noL] using h))
theorem DqAll.noL {K : PySem.W.Frag} {H : Hp} {S S1 : List Addr} (hS : ∀ t ∈ S, t ∉ S1 → ∃ s xs, H t = some (ho s xs)) : ∀ {vs : List V} {ds : List PyData}, DqAll K (mi H S1) vs ds → Pw.noLs ds = true → DqAll K (mi H S) vs ds
  | _, _, .nil, _ => .nil
  | _, _, .cons h1 h2, h => by
    rw [Pw.noLs, Bool.and_eq_true] at h
    exact .cons (Dq.noL hS h1 h.1) (DqAll.noL hS h2 h.2)
end
theorem noL_ints {ns : List Int} : noLs (ns.map .int) = true := by
  induction ns with
  | nil => rfl
  | cons n ns ih => rw [List.map_cons, noLs, ih]; rfl
/-! ### expressions that change nothing -/
def ER (K : PySem.W.Frag) (te : TE) (Γ : En0) (R : V → Hp → Prop) : Prop := ∀ σ B, EnvF K B σ Γ → EvR te σ B R
abbrev EE (K : PySem.W.Frag) (te : TE) (Γ : En0) (d : PyData) : Prop := ER K te Γ fun v B => Dq K B v d
def EB (K : PySem.W.Frag) (tt : TT) (Γ : En0) (b : Bool) : Prop := ∀ σ B, EnvF K B σ Γ → EvB tt σ B b
def EA (K : PySem.W.Frag) (tA : TA) (Γ : En0) (ds : List PyData) : Prop := ∀ σ B, EnvF K B σ Γ → EvAD K tA σ B ds
def EPt (K : PySem.W.Frag) (tp : TO) (Γ : En0) (x : Option Int) : Prop := ∀ σ B, EnvF K B σ Γ → EvP tp σ B x
def EW (K : PySem.W.Frag) (wi : TI) (Γ : En0) (ds : List PyData) : Prop := ∀ σ B, EnvF K B σ Γ → WkD K wi σ B ds
def wipeE (Γ : En0) : List Nat → En0
  | [] => Γ
  | v :: vs => (wipeE Γ vs).set v none
theorem wipe_get {α : Type} {w : List (Option α) → List Nat → List (Option α)} (h0 : ∀ l, w l [] = l) (h1 : ∀ l v vs, w l (v :: vs) = (w l vs).set v none) (l : List (Option α)) : ∀ (vs : List Nat) (i : Nat), (w l vs)[i]? = if i ∈ vs then (l[i]?).map (fun _ => none) else l[i]?
  | [], i => by rw [h0, if_neg List.not_mem_nil]
  | v :: vs, i => by
    have ih := wipe_get h0 h1 l vs
    have hlen : ∀ vs, (w l vs).length = l.length := fun vs => by
      induction vs with
      | nil => rw [h0]
      | cons v vs ih => rw [h1, List.length_set, ih]
    rw [h1]
    by_cases e : v = i
    · subst e
      rw [if_pos List.mem_cons_self]
      by_cases hl : v < l.length
      · rw [List.getElem?_set_self (by rw [hlen]; exact hl), List.getElem?_eq_getElem hl]
        rfl
      · rw [List.getElem?_eq_none (by rw [List.length_set, hlen]; omega), List.getElem?_eq_none (by omega)]
        rfl
    · rw [List.getElem?_set_ne e, ih]
      by_cases m : i ∈ vs
      · rw [if_pos m, if_pos (List.mem_cons_of_mem _ m)]
      · rw [if_neg m, if_neg (fun z => (List.mem_cons.mp z).elim (fun z => e z.symm) m)]
theorem wipeE_get (Γ : En0) (vs : List Nat) (i : Nat) : (wipeE Γ vs)[i]? = if i ∈ vs then (Γ[i]?).map (fun _ => none) else Γ[i]? := wipe_get (fun _ => rfl) (fun _ _ _ => rfl) Γ vs i
theorem wipeS_get (σ : L2.St) (vs : List Nat) (i : Nat) : (wipe σ vs)[i]? = if i ∈ vs then (σ[i]?).map (fun _ => none) else σ[i]? := wipe_get (w := wipe) (fun _ => rfl) (fun _ _ _ => rfl) σ vs i
theorem wipeE_len (Γ : En0) : ∀ vs, (wipeE Γ vs).length = Γ.length
  | [] => rfl
  | v :: vs => by unfold wipeE; rw [List.length_set, wipeE_len Γ vs]
theorem wipe_back {σ : L2.St} {vs : List Nat} : ∀ {τ : L2.St}, τ.length = σ.length → (∀ i, i ∉ vs → τ[i]? = σ[i]?) → wipe τ vs = wipe σ vs := fun {τ} hl h => by
  refine List.ext_getElem? fun i => ?_
  rw [wipeS_get, wipeS_get]
  by_cases m : i ∈ vs
  · rw [if_pos m, if_pos m]
    by_cases hi : i < σ.length
    · rw [List.getElem?_eq_getElem hi, List.getElem?_eq_getElem (by omega)]
      rfl
    · rw [List.getElem?_eq_none (by omega), List.getElem?_eq_none (by omega)]
  · rw [if_neg m, if_neg m, h i m]
section
variable {F : Fr} {K : PySem.W.Frag} {S S' : List Addr} {B B' H H' : Hp} {σ : L2.St} {Γ : En0} {i j : Nat} {v : V} {d d' : PyData} {s : Shape} {ds es : List PyData} {a p : Addr} {xs : List V} {c : Nat} {te ta tb tl tc td ty : TE} {tt tu : TT} {tA : TA} {wi : TI} {g : TG} {R R' : V → Hp → Prop} {b b' : Bool} {tp th : TO} {lo hi : Option Int}
theorem SlF.mono {s : Sl} (e : Ex B B') (h : SlF K B v s) : SlF K B' v s := by
  match s, h with
  | .d x, h => exact Dq.mono e h
  | .o s ds, ⟨a, xs, h1, h2, h3⟩ => exact ⟨a, xs, h1, e _ _ h2, DqAll.mono e h3⟩
  | .b b c, h => exact h
  | .q R, ⟨h1, h2⟩ => exact ⟨h1, h1 _ _ _ e h2⟩
theorem EnvF.mono (e : Ex B B') (h : EnvF K B σ Γ) : EnvF K B' σ Γ := ⟨h.len, fun i s hi => by
  obtain ⟨v, h1, h2⟩ := h.ok i s hi
  exact ⟨v, h1, h2.mono e⟩⟩
theorem EnvF.wiped (vs : List Nat) (h : EnvF K B σ Γ) : EnvF K B (wipe σ vs) (wipeE Γ vs) := ⟨by rw [wipe_length, wipeE_len]; exact h.len, fun i s hi => by
  rw [wipeE_get] at hi
  by_cases m : i ∈ vs
  · rw [if_pos m] at hi
    cases e : Γ[i]? with
    | none => rw [e] at hi; cases hi
    | some x => rw [e] at hi; cases hi
  · rw [if_neg m] at hi
    obtain ⟨v, h1, h2⟩ := h.ok i s hi
    exact ⟨v, by rw [wipeS_get, if_neg m]; exact h1, h2⟩⟩
theorem EnvF.set {s : Sl} (h : EnvF K B σ Γ) (hv : SlF K B v s) : EnvF K B (σ.set i (some v)) (Γ.set i (some s)) := ⟨by rw [List.length_set, List.length_set]; exact h.len, fun j t hj => by
  rcases get_set hj with ⟨rfl, hs, hl⟩ | ⟨hne, hj⟩
  · cases hs
    exact ⟨v, by rw [List.getElem?_set_self (by rw [h.len]; exact hl)], hv⟩
  · obtain ⟨u, h1, h2⟩ := h.ok j t hj
    exact ⟨u, by rw [List.getElem?_set_ne hne]; exact h1, h2⟩⟩
/-! #### the rules -/
theorem n_v (h : Γ[i]? = some (some (.d d))) : EE K (tVar i) Γ d := fun σ B e => by
  obtain ⟨v, h1, h2⟩ := e.ok i _ h
  exact ev_var h1 h2
/-- a name read: data, or an own list held still -/
def rdD : Sl → Option PyData
  | .d x => some x
  | .o .lst ds => some (.list ds)
  | _ => none
theorem n_rd {s : Sl} (h : Γ[i]? = some (some s)) (hd : rdD s = some d) : EE K (tVar i) Γ d := fun σ B e => by
  obtain ⟨v, h1, h2⟩ := e.ok i _ h
  match s, hd, h2 with
  | .d x, hd, h2 =>
    cases hd
    exact ev_var h1 h2
  | .o .lst ds, hd, ⟨a, xs, hv, g2, g3⟩ =>
    cases hd
    subst hv
    exact ev_var h1 (.lst (sq_of g2) g3)
/-- an own list read -/
theorem n_o (h : Γ[i]? = some (some (.o .lst ds))) : EE K (tVar i) Γ (.list ds) := fun σ B e => by
  obtain ⟨v, h1, ⟨a, xs, rfl, h2, h3⟩⟩ := e.ok i _ h
  exact ev_var h1 (.lst (sq_of h2) h3)
theorem n_q (h : Γ[i]? = some (some (.q R))) : ER K (tVar i) Γ R := fun σ B e => by
  obtain ⟨v, h1, h2, h3⟩ := e.ok i _ h
  exact ev_varR h1 h3 h2
theorem n_int {i : Int} : EE K (tC (.int i)) Γ (.int i) := fun σ B e => ev_int
theorem n_bl : EE K (tC (.bl b)) Γ (.bool b) := fun σ B e => ev_bl
theorem n_non : EE K (tC .non) Γ .none := fun σ B e => ev_non
theorem n_str {x : Str} : EE K (tC (.str x)) Γ (.str x) := fun σ B e => ev_str
theorem n_is (h : EE K te Γ d) (e : d = d') : EE K te Γ d' := by rw [← e]; exact h
theorem nb_is (h : EB K tt Γ b) (e : b = b') : EB K tt Γ b' := by rw [← e]; exact h
theorem n_add {i j : Int} (ha : EE K ta Γ (.int i)) (hb : EE K tb Γ (.int j)) : EE K (tOp (rI0 fun i j => .int (i + j)) ta tb) Γ (.int (i + j)) := fun σ B e => ev_add (ha σ B e) (hb σ B e)
theorem n_sub {i j : Int} (ha : EE K ta Γ (.int i)) (hb : EE K tb Γ (.int j)) : EE K (tOp (rI0 fun i j => .int (i - j)) ta tb) Γ (.int (i - j)) := fun σ B e => ev_sub (ha σ B e) (hb σ B e)
theorem n_mul {C : Int → Int → Prop} {i j : Int} (ha : EE K ta Γ (.int i)) (hb : EE K tb Γ (.int j)) (hc : C i j) : EE K (tOp (rI C fun i j => .int (i * j)) ta tb) Γ (.int (i * j)) := fun σ B e => ev_I (ha σ B e) (hb σ B e) hc fun _ => .int _
theorem n_mod {i j : Int} (ha : EE K ta Γ (.int i)) (hb : EE K tb Γ (.int j)) (hc : 0 < j) : EE K (tOp (rI (fun _ j => 0 < j) fun i j => .int (i % j)) ta tb) Γ (.int (i % j)) := fun σ B e => ev_mod (ha σ B e) (hb σ B e) hc
theorem n_div {C : Int → Int → Prop} {i j : Int} (ha : EE K ta Γ (.int i)) (hb : EE K tb Γ (.int j)) (hc : C i j) : EE K (tOp (rI C fun i j => .int (i / j)) ta tb) Γ (.int (i / j)) := fun σ B e => ev_div (ha σ B e) (hb σ B e) hc
theorem n_cmp {g : Int → Int → Bool} {i j : Int} (ha : EE K ta Γ (.int i)) (hb : EE K tb Γ (.int j)) : EE K (tOp (rI0 fun i j => .bl (g i j)) ta tb) Γ (.bool (g i j)) := fun σ B e => ev_cmp (ha σ B e) (hb σ B e)
theorem n_neg {i : Int} (ha : EE K ta Γ (.int i)) : EE K (tUn (rU fun i => .int (-i)) ta) Γ (.int (-i)) := fun σ B e => ev_neg (ha σ B e)
theorem n_eqI {i j : Int} (ha : EE K ta Γ (.int i)) (hb : EE K tb Γ (.int j)) : EE K (tOp rEq ta tb) Γ (.bool (decide (i = j))) := fun σ B e => ev_eqI (ha σ B e) (hb σ B e)
theorem n_neI {i j : Int} (ha : EE K ta Γ (.int i)) (hb : EE K tb Γ (.int j)) : EE K (tOp rNe ta tb) Γ (.bool (!decide (i = j))) := fun σ B e => ev_neI (ha σ B e) (hb σ B e)
theorem n_eqB {i j : Bool} (ha : EE K ta Γ (.bool i)) (hb : EE K tb Γ (.bool j)) : EE K (tOp rEq ta tb) Γ (.bool (i == j)) := fun σ B e => ev_eqB (ha σ B e) (hb σ B e)
theorem n_neB {i j : Bool} (ha : EE K ta Γ (.bool i)) (hb : EE K tb Γ (.bool j)) : EE K (tOp rNe ta tb) Γ (.bool (i != j)) := fun σ B e => ev_neB (ha σ B e) (hb σ B e)
theorem n_and (ha : EE K ta Γ (.bool b)) (hb : b = true → EE K tb Γ (.bool b')) : EE K (tAndV ta tb) Γ (.bool (b && b')) := fun σ B e => ev_and (ha σ B e) fun z => hb z σ B e
theorem n_or (ha : EE K ta Γ (.bool b)) (hb : b = false → EE K tb Γ (.bool b')) : EE K (tOrV ta tb) Γ (.bool (b || b')) := fun σ B e => ev_or (ha σ B e) fun z => hb z σ B e
theorem n_not (ha : EE K ta Γ (.bool b)) : EE K (tNotV ta) Γ (.bool (!b)) := fun σ B e => ev_not (ha σ B e)
theorem n_if (h : EB K tt Γ b) (h1 : b = true → EE K ta Γ d) (h2 : b = false → EE K tb Γ d) : EE K (tIf tt ta tb) Γ d := fun σ B e => ev_if (h σ B e) (fun z => h1 z σ B e) (fun z => h2 z σ B e) stays_dp
theorem n_ite (h : EB K tt Γ b) (h1 : b = true → EE K ta Γ d) (h2 : b = false → EE K tb Γ d') : EE K (tIf tt ta tb) Γ (bif b then d else d') := n_if h (fun z => by rw [z]; exact h1 z) (fun z => by rw [z]; exact h2 z)
theorem nb_test (h : EE K te Γ (.bool b)) : EB K (tTest te) Γ b := fun σ B e => eb_test (h σ B e)
theorem nb_B (h : EE K te Γ (.bool b)) : EB K (tB te) Γ b := fun σ B e => eb_B (h σ B e)
theorem nb_not (h : EB K tt Γ b) : EB K (tNot tt) Γ (!b) := fun σ B e => eb_not (h σ B e)
theorem nb_and (h : EB K tt Γ b) (h2 : b = true → EB K tu Γ b') : EB K (tAnd tt tu) Γ (b && b') := fun σ B e => eb_and (h σ B e) fun z => h2 z σ B e
theorem nb_or (h : EB K tt Γ b) (h2 : b = false → EB K tu Γ b') : EB K (tOr tt tu) Γ (b || b') := fun σ B e => eb_or (h σ B e) fun z => h2 z σ B e
theorem nb_yes : EB K tYes Γ true := fun σ B e => eb_yes
theorem na_nil : EA K tNil Γ [] := fun σ B e => ea_nil
theorem na_cons (h : EE K ta Γ d) (hr : EA K tA Γ ds) : EA K (tCons ta tA) Γ (d :: ds) := fun σ B e => ea_cons (h σ B e) (hr σ B e)
theorem n_tup (h : EA K tA Γ ds) (hl : ds.length ≤ 100000) : EE K (tTup tA) Γ (.tuple ds) := fun σ B e => ev_tup (h σ B e) hl
theorem n_lst (h : EA K tA Γ ds) (hl : ds.length ≤ 100000) : EE K (tLst tA) Γ (.list ds) := fun σ B e => ev_lst (h σ B e) hl
theorem n_ix {t : Bool} {i : Int} (ha : EE K ta Γ (seqD t ds)) (hb : EE K tb Γ (.int i)) (hi : atI ds i = some d) : EE K (tOp (rIx K) ta tb) Γ d := fun σ B e => ev_ix (ha σ B e) (hb σ B e) hi
theorem n_ixL {i : Int} (ha : EE K ta Γ (.list ds)) (hb : EE K tb Γ (.int i)) (hi : atI ds i = some d) : EE K (tOp (rIxL K) ta tb) Γ d := fun σ B e => ev_ixL (ha σ B e) (hb σ B e) hi
theorem n_ixT {i : Int} (ha : EE K ta Γ (.tuple ds)) (hb : EE K tb Γ (.int i)) (hi : atI ds i = some d) : EE K (tOp (rIxT K) ta tb) Γ d := fun σ B e => ev_ixT (ha σ B e) (hb σ B e) hi
theorem n_len {t : Bool} (h : EE K ta Γ (seqD t ds)) : EE K (tCB (rLenS K) (tCons ta tNil)) Γ (.int (ds.length : Nat)) := fun σ B e => ev_len (h σ B e)
theorem n_list {t : Bool} (h : EE K ta Γ (seqD t ds)) : EE K (tCB (rListS K) (tCons ta tNil)) Γ (.list ds) := fun σ B e => ev_list (h σ B e)
theorem n_tuple {t : Bool} (h : EE K ta Γ (seqD t ds)) : EE K (tCB (rTupleS K) (tCons ta tNil)) Γ (.tuple ds) := fun σ B e => ev_tuple (h σ B e)
theorem n_sum {ns : List Int} (h : EE K ta Γ (.list (ns.map .int))) : EE K (tCB (rSum K) (tCons ta tNil)) Γ (.int ns.sum) := fun σ B e => ev_sum (h σ B e)
theorem n_all {bs : List Bool} (h : EE K ta Γ (.list (bs.map .bool))) : EE K (tCB (rAll K) (tCons ta tNil)) Γ (.bool (bs.all id)) := fun σ B e => ev_all (h σ B e)
theorem n_any {bs : List Bool} (h : EE K ta Γ (.list (bs.map .bool))) : EE K (tCB (rAny K) (tCons ta tNil)) Γ (.bool (bs.any id)) := fun σ B e => ev_any (h σ B e)
theorem n_intB (h : EE K ta Γ (.bool b)) : EE K (tCB rInt1 (tCons ta tNil)) Γ (.int (if b = true then 1 else 0)) := fun σ B e => ev_intB (h σ B e)
theorem n_abs {i : Int} (h : EE K ta Γ (.int i)) : EE K (tCB rAbs1 (tCons ta tNil)) Γ (.int (if i < 0 then -i else i)) := fun σ B e => ev_abs (h σ B e)
theorem n_min2 {i j : Int} (ha : EE K ta Γ (.int i)) (hb : EE K tb Γ (.int j)) : EE K (tCB rMin2 (tCons ta (tCons tb tNil))) Γ (.int (if j < i then j else i)) := fun σ B e => ev_min2 (ha σ B e) (hb σ B e)
theorem n_max2 {i j : Int} (ha : EE K ta Γ (.int i)) (hb : EE K tb Γ (.int j)) : EE K (tCB rMax2 (tCons ta (tCons tb tNil))) Γ (.int (if j > i then j else i)) := fun σ B e => ev_max2 (ha σ B e) (hb σ B e)
theorem n_in {neg t : Bool} {i : Int} {ns : List Int} (ha : EE K ta Γ (.int i)) (hb : EE K tb Γ (seqD t (ns.map .int))) : EE K (tOp (rIn K neg) ta tb) Γ (.bool (if neg then !decide (i ∈ ns) else decide (i ∈ ns))) := fun σ B e => ev_in (ha σ B e) (hb σ B e)
theorem n_eqD (ha : EE K ta Γ d) (hb : EE K tb Γ d') (s1 : SeqAt.shaped d = true) (s2 : SeqAt.shaped d' = true) : EE K (tOp (rEqD K) ta tb) Γ (.bool (PyData.eqv d d')) := fun σ B e => ev_eqD (ha σ B e) (hb σ B e) s1 s2
theorem n_neD (ha : EE K ta Γ d) (hb : EE K tb Γ d') (s1 : SeqAt.shaped d = true) (s2 : SeqAt.shaped d' = true) : EE K (tOp (rNeD K) ta tb) Γ (.bool (!PyData.eqv d d')) := fun σ B e => ev_neD (ha σ B e) (hb σ B e) s1 s2
theorem n_isi {T : String} (h : EE K ta Γ d) (hb : kitB (tyN d) T = some b) : EE K (tCB (rIsi K) (tCons ta (tCons (tC (.ty T)) tNil))) Γ (.bool b) := fun σ B e => ev_isi (h σ B e) hb
theorem n_isi2 {T1 T2 : String} {b1 b2 : Bool} (h : EE K ta Γ d) (h1 : kitB (tyN d) T1 = some b1) (h2 : kitB (tyN d) T2 = some b2) : EE K (tCB (rIsiT K) (tCons ta (tCons (tTup (tCons (tC (.ty T1)) (tCons (tC (.ty T2)) tNil))) tNil))) Γ (.bool (b1 || b2)) := fun σ B e => ev_isi2 (h σ B e) h1 h2
theorem n_call {f : List PyData → PyData → Prop} {E : XK} (h : EA K tA Γ ds) (hf : f ds d) : EE K (tCall (spD K f) [] E tA) Γ d := fun σ B e => ev_call (h σ B e) hf
theorem n_chain {g g' : Int → Int → Bool} {i j k : Int} (ha : EE K ta Γ (.int i)) (hb : EE K tb Γ (.int j)) (hc : EE K tc Γ (.int k)) : EE K (tChain (rI0 fun i j => .bl (g i j)) (rI0 fun i j => .bl (g' i j)) ta tb tc) Γ (.bool (g i j && g' j k)) := fun σ B e => ev_chain (ha σ B e) (hb σ B e) (hc σ B e)
theorem np_none : EPt K tNoPart Γ none := fun σ B e => ep_none
theorem np_some {i : Int} (h : EE K ta Γ (.int i)) : EPt K (tPart ta) Γ (some i) := fun σ B e => ep_some (h σ B e)
theorem n_slL {tl th : TO} (ha : EE K ta Γ (.list ds)) (hl : EPt K tl Γ lo) (hh : EPt K th Γ hi) : EE K (tSl (rSlL K) ta tl th) Γ (.list (cutA ds lo hi)) := fun σ B e => ev_slL (ha σ B e) (hl σ B e) (hh σ B e)
theorem n_slA {tl th : TO} (ha : EE K ta Γ (.tuple ds)) (hl : EPt K tl Γ lo) (hh : EPt K th Γ hi) : EE K (tSl (rSlA K) ta tl th) Γ (.tuple (cutA ds lo hi)) := fun σ B e => ev_slA (ha σ B e) (hl σ B e) (hh σ B e)
theorem n_pair {t : Tie} (ha : EE K ta Γ (tieD t)) : EE K (tSl (rSlT K) ta tNoPart (tPart (tC (.int 2)))) Γ (pairD (t.1, t.2.1)) := fun σ B e => ev_pair (ha σ B e)
theorem n_inD (ha : EE K ta Γ d) (hb : EE K tb Γ (.list ds)) (s1 : SeqAt.shaped d = true) (s2 : SeqAt.shaped (.list ds) = true) : EE K (tOp (rInD K) ta tb) Γ (.bool (ds.any fun z => PyData.eqv z d)) := fun σ B e => ev_inD (ha σ B e) (hb σ B e) s1 s2
theorem n_ninD (ha : EE K ta Γ d) (hb : EE K tb Γ (.list ds)) (s1 : SeqAt.shaped d = true) (s2 : SeqAt.shaped (.list ds) = true) : EE K (tOp (rNotInD K) ta tb) Γ (.bool (!ds.any fun z => PyData.eqv z d)) := fun σ B e => ev_ninD (ha σ B e) (hb σ B e) s1 s2
theorem n_catA (ha : EE K ta Γ (.tuple ds)) (hb : EE K tb Γ (.tuple es)) (hl : ds.length + es.length ≤ 100000) : EE K (tOp (rCatA K) ta tb) Γ (.tuple (ds ++ es)) := fun σ B e => ev_catA (ha σ B e) (hb σ B e) hl
theorem n_dset {ks : List Int} {f : Int → PyData} (h : EE K ta Γ (.list (ks.map fun k => .tuple [.int k, f k]))) : ER K (tCB (rDictP K) (tCons ta tNil)) Γ (DSet ks) := fun σ B e => ev_dset (h σ B e)
theorem n_din {i : Int} {ks : List Int} (ha : EE K ta Γ (.int i)) (hd : ER K td Γ (DSet ks)) : EE K (tDIn ta td) Γ (.bool (decide (i ∈ ks))) := fun σ B e => ev_din (ha σ B e) (hd σ B e)
theorem n_dnin {i : Int} {ks : List Int} (ha : EE K ta Γ (.int i)) (hd : ER K td Γ (DSet ks)) : EE K (tDNotIn ta td) Γ (.bool (!decide (i ∈ ks))) := fun σ B e => ev_dnin (ha σ B e) (hd σ B e)
theorem n_dpairs {ks : List (Int × Int)} {f : Int × Int → PyData} (h : EE K ta Γ (.list (ks.map fun k => .tuple [pairD k, f k]))) : ER K (tCB (rDictT K) (tCons ta tNil)) Γ (DPairs ks) := fun σ B e => ev_dpairs (h σ B e)
theorem n_tin {x y : Int} {ks : List (Int × Int)} (ha : EE K ta Γ (pairD (x, y))) (hd : ER K td Γ (DPairs ks)) : EE K (tDIn ta td) Γ (.bool (decide ((x, y) ∈ ks))) := fun σ B e => ev_tin (ha σ B e) (hd σ B e)
theorem n_tnin {x y : Int} {ks : List (Int × Int)} (ha : EE K ta Γ (pairD (x, y))) (hd : ER K td Γ (DPairs ks)) : EE K (tDNotIn ta td) Γ (.bool (!decide ((x, y) ∈ ks))) := fun σ B e => ev_tnin (ha σ B e) (hd σ B e)
theorem n_lenSet {ns ds : List Int} (h : EE K te Γ (.list (ns.map .int))) (hl : ns.length ≤ 4000) (hd : ds.Nodup) (hm : ∀ k, k ∈ ds ↔ k ∈ ns) : EE K (tLenSet K te) Γ (.int (ds.length : Nat)) := fun σ B e => ev_lenSet (h σ B e) hl hd hm
/-! #### walks -/
theorem nw_list (h : EE K tl Γ (.list ds)) : EW K (iList K tl) Γ ds := fun σ B e => wk_list (h σ B e)
theorem nw_tup (h : EE K tl Γ (.tuple ds)) : EW K (iTup K tl) Γ ds := fun σ B e => wk_tup (h σ B e)
theorem nw_seq {t : Bool} (h : EE K tl Γ (seqD t ds)) : EW K (fun σ H R => iList K tl σ H R ∨ iTup K tl σ H R) Γ ds := fun σ B e => wk_seq (h σ B e)
theorem nw_rng1 {j : Int} (h : EA K tA Γ [.int j]) (hj : -100000 ≤ j ∧ j ≤ 100000) : EW K (iRng1 tA) Γ ((rngI 0 j.toNat).map .int) := fun σ B e => wk_rng1 (h σ B e) hj
theorem nw_rng2 {i j : Int} (h : EA K tA Γ [.int i, .int j]) (hi : -100000 ≤ i ∧ i ≤ 100000) (hj : -100000 ≤ j ∧ j ≤ 100000) : EW K (iRng2 tA) Γ ((rngI i (j - i).toNat).map .int) := fun σ B e => wk_rng2 (h σ B e) hi hj
theorem nw_is (h : EW K wi Γ ds) (e : ds = es) : EW K wi Γ es := by rw [← e]; exact h
/-! #### comprehensions -/
def NTurn (K : PySem.W.Frag) (g : TG) (tt : TT) (te : TE) (Γ : En0) (vs : List Nat) (d : PyData) (fa : Bool) (ea : PyData) : Prop := ∀ σ B, EnvF K B σ Γ → TurnLc K g tt te σ vs B d fa ea
theorem n_lc {α : Type} (l : List α) (enc : α → PyData) (f : α → Bool) (e : α → PyData) {vs : List Nat} (hk : EW K wi Γ (l.map enc)) (hl : l.length ≤ 40000) (turn : ∀ a ∈ l, NTurn K g tt te Γ vs (enc a) (f a) (e a)) :
    EE K (tLc wi g tt te vs) Γ (.list ((l.filter f).map e)) := fun σ B h => ev_lc l enc f e (hk σ B h) hl fun a ha => turn a ha σ B h
/-- all taken -/
theorem n_lc1 {α : Type} (l : List α) (enc : α → PyData) (e : α → PyData) {vs : List Nat} (hk : EW K wi Γ (l.map enc)) (hl : l.length ≤ 40000) (turn : ∀ a ∈ l, NTurn K g tYes te Γ vs (enc a) true (e a)) :
    EE K (tLc wi g tYes te vs) Γ (.list (l.map e)) := n_is (n_lc l enc (fun _ => true) e hk hl turn) (by rw [List.filter_eq_self.mpr fun _ _ => rfl])
/-- a target takes a datum: the names' worth then -/
def GN (K : PySem.W.Frag) (g : TG) (vs : List Nat) (Γ : En0) (d : PyData) (Γ2 : En0) : Prop := ∀ S B H σ x, Wd S B H → EnvF K B σ Γ → Dq K B x d → ∀ Q : L2.St → Hp → Prop, (∀ σ' : L2.St, EnvF K B σ' Γ2 → (∀ i, i ∉ vs → σ'[i]? = σ[i]?) → σ'.length = σ.length → Q σ' H) → g x σ H Q
def GNs (K : PySem.W.Frag) (g : TGs) (vs : List Nat) (Γ : En0) (ds : List PyData) (Γ2 : En0) : Prop := ∀ S B H σ xs, Wd S B H → EnvF K B σ Γ → DqAll K B xs ds → ∀ Q : L2.St → Hp → Prop, (∀ σ' : L2.St, EnvF K B σ' Γ2 → (∀ i, i ∉ vs → σ'[i]? = σ[i]?) → σ'.length = σ.length → Q σ' H) → g xs σ H Q
theorem gn_1 {j : Nat} {vs : List Nat} (hj : j ∈ vs) : GN K (gName j) vs Γ d (Γ.set j (some (.d d))) := fun S B H σ x w e h Q q => q _ (e.set (s := .d d) h) (fun i m => List.getElem?_set_ne fun (z : j = i) => m (z ▸ hj)) (List.length_set ..)
theorem gns_nil {vs : List Nat} : GNs K gNil vs Γ [] Γ := fun S B H σ xs w e h Q q => by cases h; exact ⟨rfl, q _ e (fun _ _ => rfl) rfl⟩
theorem gns_cons {vs : List Nat} {gs : TGs} {Γ1 Γ2 : En0} (h1 : GN K g vs Γ d Γ1) (h2 : GNs K gs vs Γ1 ds Γ2) : GNs K (gCons g gs) vs Γ (d :: ds) Γ2 := fun S B H σ xs w e h Q q => by
  cases h with
  | cons a r => exact ⟨_, _, rfl, h1 S B H σ _ w e a _ fun σ1 e1 k1 l1 => h2 S B H σ1 _ w e1 r _ fun σ2 e2 k2 l2 => q σ2 e2 (fun i m => (k2 i m).trans (k1 i m)) (l2.trans l1)⟩
theorem gn_tup {vs : List Nat} {gs : TGs} {n : Nat} {Γ2 : En0} (hn : ds.length = n) (h2 : GNs K gs vs Γ ds Γ2) : GN K (gTup K n gs) vs Γ (.tuple ds) Γ2 := fun S B H σ x w e h Q q => by
  cases h with
  | tup hs hd => exact ⟨_, _, rfl, st_of (w.ex _ _ hs), by rw [DqAll.length hd]; exact hn, h2 S B H σ _ w e hd Q q⟩
theorem nt {vs : List Nat} {fa : Bool} {ea : PyData} {Γ2 : En0} (hg : GN K g vs (wipeE Γ vs) d Γ2) (ht : EB K tt Γ2 fa) (he : fa = true → EE K te Γ2 ea) : NTurn K g tt te Γ vs d fa ea := fun σ B h x S B' H' eB w hx Qy Qn hy hn =>
  hg S B' H' _ x w ((h.wiped vs).mono eB) hx _ fun σ' e k l => ⟨wipe_back (l.trans (wipe_length ..)) fun i m => by rw [k i m, wipeS_get, if_neg m], (ht σ' B' e).bind w fun B2 H2 e2 eB2 w2 => by
    cases fa with
    | true => exact ((he rfl σ' B' e).mono eB2).bind w2 fun y B3 H3 e3 eB3 w3 r => hy rfl y B3 H3 (e2.trans e3) (eB2.trans eB3) w3 r
    | false => exact hn rfl B2 H2 e2 eB2 w2⟩
end
end Pw

/-! ## PwM -/
namespace Pw
open PySem L2 Evl

/-! ### statements, no places in sight -/
/-- where a block may end: with which names' worth, with which value -/
structure Po where
  nx : En0 → Prop
  rt : PyData → En0 → Prop
  bk : En0 → Prop := fun _ => False
  ct : En0 → Prop := fun _ => False
  /-- a list of one's own told -/
  ro : List PyData → En0 → Prop := fun _ _ => False
structure Post (F : Fr) (B : Hp) (P : Po) (D : Ends) : Prop where
  nx : ∀ S' B' H' σ' Γ', P.nx Γ' → En F S' B' H' σ' Γ' → Ex B B' → D.nx σ' H'
  rt : ∀ S' B' H' σ' Γ' v d, P.rt d Γ' → En F S' B' H' σ' Γ' → Ex B B' → Dq F.K B' v d → D.rt v H'
  bk : ∀ S' B' H' σ' Γ', P.bk Γ' → En F S' B' H' σ' Γ' → Ex B B' → D.bk σ' H'
  ct : ∀ S' B' H' σ' Γ', P.ct Γ' → En F S' B' H' σ' Γ' → Ex B B' → D.ct σ' H'
  ro : ∀ S' B' H' σ' Γ' a xs ds, P.ro ds Γ' → En F S' B' H' σ' Γ' → Ex B B' → a ∈ S' → F.H a = none → H' a = some (.lst xs) → DqAll F.K B' xs ds → D.rt (.ref a) H'
def SX (F : Fr) (ts : TS) (Γ : En0) (P : Po) : Prop := ∀ S B H σ D, En F S B H σ Γ → Post F B P D → ts D σ H
/-- an expression that may draw -/
def EX (F : Fr) (te : TE) (Γ : En0) (R : PyData → En0 → Prop) : Prop := ∀ S B H σ, En F S B H σ Γ → ∀ Q : VK, (∀ v S' B' H' d Γ', R d Γ' → En F S' B' H' σ Γ' → Ex B B' → Dq F.K B' v d → Q v H') → te σ H Q
/-- arguments that may draw -/
def AX (F : Fr) (tA : TA) (Γ : En0) (R : List PyData → En0 → Prop) : Prop := ∀ S B H σ, En F S B H σ Γ → ∀ Q : List V → Hp → Prop, (∀ vs S' B' H' ds Γ', R ds Γ' → En F S' B' H' σ Γ' → Ex B B' → DqAll F.K B' vs ds → Q vs H') → tA σ H Q
section
variable {F : Fr} {K : PySem.W.Frag} {S S' : List Addr} {B B' H H' : Hp} {σ : L2.St} {Γ : En0} {i j : Nat} {v : V} {d d' : PyData} {s : Shape} {ds es : List PyData} {a p : Addr} {xs : List V} {c : Nat} {te ta tb tl tc td ty : TE} {tt tw : TT} {tA : TA} {wi : TI} {g : TG} {R R' : V → Hp → Prop} {b b' : Bool} {t u : TS} {P : Po} {D : Ends}
theorem Post.mono (e : Ex B B') (h : Post F B P D) : Post F B' P D := ⟨fun S1 B1 H1 σ1 Γ1 p n x => h.nx S1 B1 H1 σ1 Γ1 p n (e.trans x), fun S1 B1 H1 σ1 Γ1 v d p n x => h.rt S1 B1 H1 σ1 Γ1 v d p n (e.trans x), fun S1 B1 H1 σ1 Γ1 p n x => h.bk S1 B1 H1 σ1 Γ1 p n (e.trans x), fun S1 B1 H1 σ1 Γ1 p n x => h.ct S1 B1 H1 σ1 Γ1 p n (e.trans x), fun S1 B1 H1 σ1 Γ1 a xs ds p n x => h.ro S1 B1 H1 σ1 Γ1 a xs ds p n (e.trans x)⟩
theorem SX.imp {P' : Po} (h : SX F t Γ P) (h1 : ∀ Γ', P.nx Γ' → P'.nx Γ') (h2 : ∀ d Γ', P.rt d Γ' → P'.rt d Γ') (h3 : ∀ Γ', P.bk Γ' → P'.bk Γ') (h4 : ∀ Γ', P.ct Γ' → P'.ct Γ') (h5 : ∀ ds Γ', P.ro ds Γ' → P'.ro ds Γ' := by intro _ _ h; exact h) : SX F t Γ P' :=
  fun S B H σ D e p => h S B H σ D e ⟨fun S1 B1 H1 σ1 Γ1 q => p.nx S1 B1 H1 σ1 Γ1 (h1 _ q), fun S1 B1 H1 σ1 Γ1 v d q => p.rt S1 B1 H1 σ1 Γ1 v d (h2 _ _ q), fun S1 B1 H1 σ1 Γ1 q => p.bk S1 B1 H1 σ1 Γ1 (h3 _ q), fun S1 B1 H1 σ1 Γ1 q => p.ct S1 B1 H1 σ1 Γ1 (h4 _ q), fun S1 B1 H1 σ1 Γ1 a xs ds q => p.ro S1 B1 H1 σ1 Γ1 a xs ds (h5 _ _ q)⟩
theorem En.ev (e : En F S B H σ Γ) (h : ER F.K te (hide Γ) R) {Q : VK} (k : ∀ v B' H', Ex B B' → En F S B' H' σ Γ → R v B' → Q v H') : te σ H Q :=
  (h σ B e.hidden).bind e.w fun v B' H' eH eB w r => k v B' H' eB (e.ext eH eB w) r
theorem En.evA (e : En F S B H σ Γ) (h : EE F.K te Γ d) (ha : noL d = true) {Q : VK} (k : ∀ v B' H', Ex B B' → En F S B' H' σ Γ → Dq F.K B' v d → Q v H') : te σ H Q := by
  obtain ⟨S1, B1, w1, eB, hS, hE⟩ := e.frz
  refine h σ B1 hE S1 H w1 Q fun v H' eH r => ?_
  have hS' : ∀ t ∈ S, t ∉ S1 → ∃ s xs, H' t = some (ho s xs) := fun t m n => by
    obtain ⟨s, xs, z⟩ := hS t m n
    exact ⟨s, xs, eH _ _ z⟩
  exact k v (mi H' S) H' (e.w.stepE eH) (e.ext eH (e.w.stepE eH) (e.w.step eH)) (Dq.noL hS' r ha)
theorem En.eb (e : En F S B H σ Γ) (h : EB F.K tt Γ b) {Q : Bool → Hp → Prop} (k : ∀ H', En F S B H' σ Γ → Q b H') : tt σ H Q := by
  obtain ⟨S1, B1, w1, eB, hS, hE⟩ := e.frz
  exact (h σ B1 hE).bind w1 fun B' H' eH _ _ => k H' (e.ext eH (Ex.refl _) (e.w.ext eH))
theorem x_pure (h : EE F.K te (hide Γ) d) : EX F te Γ fun x Γ' => x = d ∧ Γ' = Γ := fun S B H σ e Q q => e.ev h fun v B' H' eB e' r => q v S B' H' d Γ ⟨rfl, rfl⟩ e' eB r
theorem x_atom (h : EE F.K te Γ d) (ha : noL d = true) : EX F te Γ fun x Γ' => x = d ∧ Γ' = Γ := fun S B H σ e Q q => e.evA h ha fun v B' H' eB e' r => q v S B' H' d Γ ⟨rfl, rfl⟩ e' eB r
theorem EX.imp {R R' : PyData → En0 → Prop} (h : EX F te Γ R) (i : ∀ d Γ', R d Γ' → R' d Γ') : EX F te Γ R' := fun S B H σ e Q q => h S B H σ e Q fun v S' B' H' d Γ' r => q v S' B' H' d Γ' (i _ _ r)
/-! #### the rules of statements -/
theorem s_next (h : P.nx Γ) : SX F tNext Γ P := fun S B H σ D e p => p.nx S B H σ Γ h e (Ex.refl _)
theorem s_break (h : P.bk Γ) : SX F tBreak Γ P := fun S B H σ D e p => p.bk S B H σ Γ h e (Ex.refl _)
theorem s_cont (h : P.ct Γ) : SX F tCont Γ P := fun S B H σ D e p => p.ct S B H σ Γ h e (Ex.refl _)
theorem s_seq (h : SX F t Γ { P with nx := fun Γ' => SX F u Γ' P }) : SX F (tSeq t u) Γ P := fun S B H σ D e p =>
  h S B H σ { D with nx := u D } e ⟨fun S1 B1 H1 σ1 Γ1 q e1 x => q S1 B1 H1 σ1 D e1 (p.mono x), p.rt, p.bk, p.ct, p.ro⟩
/-- with what is true between -/
theorem s_mid (M : En0 → Prop) (h : SX F t Γ { P with nx := M }) (k : ∀ Γ', M Γ' → SX F u Γ' P) : SX F (tSeq t u) Γ P := s_seq (h.imp k (fun _ _ h => h) (fun _ h => h) fun _ h => h)
/-- a name bound to what may have been drawn -/
theorem s_asgX {R : PyData → En0 → Prop} (h : EX F te Γ R) (k : ∀ d Γ', R d Γ' → P.nx (Γ'.set i (some (.d d)))) : SX F (tAsg te (gName i)) Γ P := fun S B H σ D e p =>
  h S B H σ e _ fun v S' B' H' d Γ' r e' eB hv => p.nx S' B' H' _ _ (k d Γ' r) (e'.setD hv) eB
theorem s_asg (h : EE F.K te (hide Γ) d) (k : P.nx (Γ.set i (some (.d d)))) : SX F (tAsg te (gName i)) Γ P := s_asgX (x_pure h) fun x Γ' ⟨h1, h2⟩ => by subst h1 h2; exact k
theorem s_asgA (h : EE F.K te Γ d) (ha : noL d = true) (k : P.nx (Γ.set i (some (.d d)))) : SX F (tAsg te (gName i)) Γ P := s_asgX (x_atom h ha) fun x Γ' ⟨h1, h2⟩ => by subst h1 h2; exact k
/-- a, b = e, f -/
theorem s_par {d' : PyData} {tb : TE} (ha : EE F.K te (hide Γ) d) (hb : EE F.K tb (hide Γ) d') (k : P.nx ((Γ.set i (some (.d d))).set j (some (.d d')))) : SX F (tPar i j (tCons te (tCons tb tNil))) Γ P := fun S B H σ D e p =>
  e.ev ha fun v B1 H1 eB1 e1 r1 => e1.ev hb fun u B2 H2 eB2 e2 r2 => ⟨v, u, rfl, p.nx S B2 H2 _ _ k ((e2.setD (Dq.mono eB2 r1)).setD r2) (eB1.trans eB2)⟩
/-- a name bound to a thing of which R is true -/
theorem s_asgQ (h : ER F.K te (hide Γ) R) (st : Stays R) (k : P.nx (Γ.set i (some (.q R)))) : SX F (tAsg te (gName i)) Γ P := fun S B H σ D e p =>
  e.ev h fun v B' H' eB e' r => p.nx S B' H' _ _ k (e'.set (t := .q R) ⟨st, r⟩ fun z => by cases z) eB
theorem s_retX {R : PyData → En0 → Prop} (h : EX F te Γ R) (k : ∀ d Γ', R d Γ' → P.rt d Γ') : SX F (tRet te) Γ P := fun S B H σ D e p =>
  h S B H σ e _ fun v S' B' H' d Γ' r e' eB hv => p.rt S' B' H' σ Γ' v d (k d Γ' r) e' eB hv
theorem s_ret (h : EE F.K te (hide Γ) d) (k : P.rt d Γ) : SX F (tRet te) Γ P := s_retX (x_pure h) fun x Γ' ⟨h1, h2⟩ => by subst h1 h2; exact k
theorem s_retA (h : EE F.K te Γ d) (ha : noL d = true) (k : P.rt d Γ) : SX F (tRet te) Γ P := s_retX (x_atom h ha) fun x Γ' ⟨h1, h2⟩ => by subst h1 h2; exact k
theorem s_if (h : EB F.K tt Γ b) (h1 : b = true → SX F t Γ P) (h2 : b = false → SX F u Γ P) : SX F (tIfS tt t u) Γ P := fun S B H σ D e p => e.eb h fun H' e' => by
  cases b with
  | true => exact h1 rfl S B H' σ D e' p
  | false => exact h2 rfl S B H' σ D e' p
/-- an own list is data from here on -/
theorem s_give (hi : Γ[i]? = some (some (.o .lst ds))) (h : SX F t (Γ.set i (some (.d (.list ds)))) P) : SX F t Γ P := fun S B H σ D e p => by
  obtain ⟨S', B', e', eB⟩ := e.give hi
  exact h S' B' H σ D e' (p.mono eB)
/-- at the block's end own lists become data -/
theorem s_giveEnd (h : SX F t Γ { P with nx := fun Γ' => ∃ i ds, Γ'[i]? = some (some (.o .lst ds)) ∧ P.nx (Γ'.set i (some (.d (.list ds)))) }) : SX F t Γ P := fun S B H σ D e p =>
  h S B H σ D e ⟨fun S1 B1 H1 σ1 Γ1 ⟨i, ds, hi, q⟩ e1 x1 => by
    obtain ⟨S2, B2, e2, eB2⟩ := e1.give hi
    exact p.nx S2 B2 H1 σ1 _ q e2 (x1.trans eB2), p.rt, p.bk, p.ct, p.ro⟩
/-- an own list begun -/
theorem s_new (h : EA F.K tA (hide Γ) ds) (hl : ds.length ≤ 100000) (k : P.nx (Γ.set i (some (.o .lst ds)))) : SX F (tAsg (tLst tA) (gName i)) Γ P := fun S B H σ D e p =>
  (h σ B e.hidden).bind e.w fun vs B' H' eH eB w rs => ⟨sz_of (by rw [DqAll.length rs]; exact hl), fun q hq => p.nx _ _ _ _ _ k ((e.ext eH eB w).own (s := .lst) hq rs) eB⟩
/-- x.append(e) -/
theorem s_appX {R : PyData → En0 → Prop} (hi : Γ[i]? = some (some (.o .lst ds))) (hl : ds.length ≤ 40000) (h : EX F te Γ R) (k : ∀ d Γ', R d Γ' → Γ'[i]? = some (some (.o .lst ds)) ∧ P.nx (Γ'.set i (some (.o .lst (ds ++ [d]))))) : SX F (tDrop (tBM F.K "list" rAppend (tVar i) (tCons te tNil))) Γ P := fun S B H σ D e p => by
  obtain ⟨v, h1, ⟨a, xs, rfl, h3, h4, h5, h6⟩⟩ := e.ok i _ hi
  have h5 : H a = some (.lst xs) := h5
  refine ⟨_, h1, .inl ⟨rfl, _, sq_of h5⟩, h S B H σ e _ fun v S' B' H' d Γ' r e' eB hv => ?_⟩
  obtain ⟨k1, k2⟩ := k d Γ' r
  obtain ⟨v', g1, ⟨a', xs', g2, g3, g4, g5, g6⟩⟩ := e'.ok i _ k1
  rw [h1] at g1
  cases g1
  cases g2
  have g5 : H' a = some (.lst xs') := g5
  refine ⟨a, xs', v, rfl, rfl, g5, sz_lt (by rw [DqAll.length g6]; omega), ?_⟩
  exact p.nx _ _ _ _ _ k2 (e'.chg (s' := .lst) (xs' := xs' ++ [v]) k1 h1 (DqAll.snoc g6 hv)) eB
theorem s_app (hi : Γ[i]? = some (some (.o .lst ds))) (hl : ds.length ≤ 40000) (h : EE F.K te (hide Γ) d) (k : P.nx (Γ.set i (some (.o .lst (ds ++ [d]))))) : SX F (tDrop (tBM F.K "list" rAppend (tVar i) (tCons te tNil))) Γ P :=
  s_appX hi hl (x_pure h) fun x Γ' ⟨h1, h2⟩ => by subst h1 h2; exact ⟨hi, k⟩
theorem s_appA (hi : Γ[i]? = some (some (.o .lst ds))) (hl : ds.length ≤ 40000) (h : EE F.K te Γ d) (ha : noL d = true) (k : P.nx (Γ.set i (some (.o .lst (ds ++ [d]))))) : SX F (tDrop (tBM F.K "list" rAppend (tVar i) (tCons te tNil))) Γ P :=
  s_appX hi hl (x_atom h ha) fun x Γ' ⟨h1, h2⟩ => by subst h1 h2; exact ⟨hi, k⟩
end
section
variable {F : Fr} {Γ Γ1 Γ2 Γ3 : En0} {j j1 j2 j3 : Nat} {d d1 d2 d3 : PyData} {ds : List PyData} {P : Po} {wi : TI} {g : TG} {tb : TS} {b : Bool} {tt : TT} {te : TE}
/-- a target takes a datum: the names' worth then -/
def GT (F : Fr) (g : TG) (Γ : En0) (d : PyData) (Γ2 : En0) : Prop := ∀ S B H σ x, En F S B H σ Γ → Dq F.K B x d → ∀ Q : L2.St → Hp → Prop, (∀ σ', En F S B H σ' Γ2 → Q σ' H) → g x σ H Q
def GTs (F : Fr) (g : TGs) (Γ : En0) (ds : List PyData) (Γ2 : En0) : Prop := ∀ S B H σ xs, En F S B H σ Γ → DqAll F.K B xs ds → ∀ Q : L2.St → Hp → Prop, (∀ σ', En F S B H σ' Γ2 → Q σ' H) → g xs σ H Q
theorem gt_1 : GT F (gName j) Γ d (Γ.set j (some (.d d))) := fun S B H σ x e h Q q => q _ (e.setD h)
theorem gts_nil : GTs F gNil Γ [] Γ := fun S B H σ xs e h Q q => by cases h; exact ⟨rfl, q _ e⟩
theorem gts_cons {gs : TGs} (h1 : GT F g Γ d Γ1) (h2 : GTs F gs Γ1 ds Γ2) : GTs F (gCons g gs) Γ (d :: ds) Γ2 := fun S B H σ xs e h Q q => by
  cases h with
  | cons a r => exact ⟨_, _, rfl, h1 S B H σ _ e a _ fun σ1 e1 => h2 S B H σ1 _ e1 r _ q⟩
theorem gt_tup {gs : TGs} {n : Nat} (hn : ds.length = n) (h2 : GTs F gs Γ ds Γ2) : GT F (gTup F.K n gs) Γ (.tuple ds) Γ2 := fun S B H σ x e h Q q => by
  cases h with
  | tup hs hd => exact ⟨_, _, rfl, st_of (e.w.ex _ _ hs), by rw [DqAll.length hd]; exact hn, h2 S B H σ _ e hd Q q⟩
/-- a, b = e -/
theorem s_asgT (h : EE F.K te (hide Γ) d) (hg : GT F g Γ d Γ2) (k : P.nx Γ2) : SX F (tAsg te g) Γ P := fun S B H σ D e p =>
  e.ev h fun v B' H' eB e' r => hg S B' H' σ v e' r _ fun σ' e2 => p.nx S B' H' σ' Γ2 k e2 eB
/-- for x in l: the invariant by the turn -/
theorem s_for {α : Type} (l : List α) (enc : α → PyData) (hk : EW F.K wi (hide Γ) (l.map enc)) (Iv : Nat → En0 → Prop) (h0 : Iv 0 Γ)
    (turn : ∀ i a Γ', l[i]? = some a → Iv i Γ' → ∃ Γ2, GT F g Γ' (enc a) Γ2 ∧ SX F tb Γ2 { P with nx := Iv (i + 1), ct := Iv (i + 1), bk := P.nx }) (done : ∀ Γ', Iv l.length Γ' → P.nx Γ') : SX F (tFor wi g tb) Γ P := fun S B H σ D e p => by
  refine hk σ B e.hidden S H e.w _ fun J B1 H1 e1 eB1 w1 hgo hstop hyld => ?_
  rw [List.length_map] at hgo hstop hyld
  refine ⟨fun i m σ' H' => m = l.length - i ∧ i ≤ l.length ∧ ∃ S' B' Γ', Iv i Γ' ∧ En F S' B' H' σ' Γ' ∧ Ex B1 B', ⟨l.length, by omega, Nat.zero_le _, S, B1, Γ, h0, e.ext e1 eB1 w1, Ex.refl _⟩, ?_⟩
  rintro i m σ2 H2 ⟨rfl, hi, S', B', Γ', hv, e2, eB2⟩
  by_cases hlt : i < l.length
  · obtain ⟨a, ha⟩ : ∃ a, l[i]? = some a := ⟨l[i], List.getElem?_eq_getElem hlt⟩
    refine .inr ⟨hgo i H2 (eB2.trans e2.w.ex) hlt, fun σ' H' => ∃ S' B' Γ', Iv (i + 1) Γ' ∧ En F S' B' H' σ' Γ' ∧ Ex B1 B', fun σ' H' h => ⟨l.length - (i + 1), by omega, rfl, by omega, h⟩, fun x H3 hy => ?_⟩
    obtain ⟨B3, e3, eB3, w3, d, hd1, hd2⟩ := hyld i S' B' H2 x H3 eB2 e2.w hlt hy
    have ed : enc a = d := by
      rw [List.getElem?_map, ha] at hd1
      exact Option.some.inj hd1
    subst ed
    obtain ⟨Γ2, gt, body⟩ := turn i a Γ' ha hv
    refine gt S' B3 H3 σ2 x (e2.ext e3 eB3 w3) hd2 _ fun σ' e4 => ?_
    refine body S' B3 H3 σ' _ e4 ⟨fun S5 B5 H5 σ5 Γ5 q e5 x5 => ⟨S5, B5, Γ5, q, e5, eB2.trans (eB3.trans x5)⟩, fun S5 B5 H5 σ5 Γ5 v d q e5 x5 hv5 => p.rt S5 B5 H5 σ5 Γ5 v d q e5 (eB1.trans (eB2.trans (eB3.trans x5))) hv5, fun S5 B5 H5 σ5 Γ5 q e5 x5 => p.nx S5 B5 H5 σ5 Γ5 q e5 (eB1.trans (eB2.trans (eB3.trans x5))), fun S5 B5 H5 σ5 Γ5 q e5 x5 => ⟨S5, B5, Γ5, q, e5, eB2.trans (eB3.trans x5)⟩, fun S5 B5 H5 σ5 Γ5 a xs ds q e5 x5 => p.ro S5 B5 H5 σ5 Γ5 a xs ds q e5 (eB1.trans (eB2.trans (eB3.trans x5)))⟩
  · have ei : i = l.length := by omega
    subst ei
    exact .inl ⟨hstop _ H2 (eB2.trans e2.w.ex) rfl, p.nx S' B' H2 σ2 Γ' (done Γ' hv) e2 (eB1.trans eB2)⟩
/-- while t: the invariant by a measure -/
theorem s_while {W : Nat → En0 → Prop} (h0 : ∃ m, W m Γ) (turn : ∀ m Γ', W m Γ' → ∃ b, EB F.K tt Γ' b ∧ (b = true → SX F tb Γ' { P with nx := fun Γ2 => ∃ m', m' < m ∧ W m' Γ2, ct := fun Γ2 => ∃ m', m' < m ∧ W m' Γ2, bk := P.nx }) ∧ (b = false → P.nx Γ')) : SX F (tWhile tt tb) Γ P := fun S B H σ D e p => by
  obtain ⟨m, hm⟩ := h0
  refine ⟨fun m σ' H' => ∃ S' B' Γ', W m Γ' ∧ En F S' B' H' σ' Γ' ∧ Ex B B', ⟨m, S, B, Γ, hm, e, Ex.refl _⟩, ?_⟩
  rintro m σ2 H2 ⟨S', B', Γ', hw, e2, eB2⟩
  obtain ⟨b, hb, h1, h2⟩ := turn m Γ' hw
  refine e2.eb hb fun H3 e3 => ?_
  cases b with
  | false => exact p.nx S' B' H3 σ2 Γ' (h2 rfl) e3 eB2
  | true =>
    refine ⟨fun σ' H' => ∃ m', m' < m ∧ ∃ S' B' Γ', W m' Γ' ∧ En F S' B' H' σ' Γ' ∧ Ex B B', fun σ' H' h => h, ?_⟩
    refine h1 rfl S' B' H3 σ2 _ e3 ⟨fun S5 B5 H5 σ5 Γ5 ⟨m', l, q⟩ e5 x5 => ⟨m', l, S5, B5, Γ5, q, e5, eB2.trans x5⟩, fun S5 B5 H5 σ5 Γ5 v d q e5 x5 hv5 => p.rt S5 B5 H5 σ5 Γ5 v d q e5 (eB2.trans x5) hv5, fun S5 B5 H5 σ5 Γ5 q e5 x5 => p.nx S5 B5 H5 σ5 Γ5 q e5 (eB2.trans x5), fun S5 B5 H5 σ5 Γ5 ⟨m', l, q⟩ e5 x5 => ⟨m', l, S5, B5, Γ5, q, e5, eB2.trans x5⟩, fun S5 B5 H5 σ5 Γ5 a xs ds q e5 x5 => p.ro S5 B5 H5 σ5 Γ5 a xs ds q e5 (eB2.trans x5)⟩
/-! #### how a def begins -/
theorem eo_nil {F : Fr} {S : List Addr} {B H : Hp} : ∀ (i : Nat) (s : Sl), ([] : En0)[i]? = some (some s) → ∃ v, ([] : L2.St)[i]? = some (some v) ∧ SlO F S B H v s := fun i s h => by simp at h
abbrev SlAll (F : Fr) (S : List Addr) (B H : Hp) (σ : L2.St) (Γ : En0) : Prop := σ.length = Γ.length ∧ (∀ (i : Nat) (s : Sl), Γ[i]? = some (some s) → ∃ v, σ[i]? = some (some v) ∧ SlO F S B H v s)
theorem sl_nil {F : Fr} {S : List Addr} {B H : Hp} : SlAll F S B H [] [] := ⟨rfl, eo_nil⟩
theorem sl_some {F : Fr} {S : List Addr} {B H : Hp} {σ : L2.St} {v : V} {s : Sl} (h : SlO F S B H v s) (t : SlAll F S B H σ Γ) : SlAll F S B H (some v :: σ) (some s :: Γ) := ⟨by rw [List.length_cons, List.length_cons, t.1], fun i u hu => by
  match i, hu with
  | 0, hu =>
    cases hu
    exact ⟨v, rfl, h⟩
  | i + 1, hu => exact t.2 i u hu⟩
theorem sl_none {F : Fr} {S : List Addr} {B H : Hp} {σ : L2.St} {x : Option V} (t : SlAll F S B H σ Γ) : SlAll F S B H (x :: σ) (none :: Γ) := ⟨by rw [List.length_cons, List.length_cons, t.1], fun i u hu => by
  match i, hu with
  | 0, hu => cases hu
  | i + 1, hu => exact t.2 i u hu⟩
/-- a def of data alone: no own things at first -/
theorem En.start {F : Fr} {σ : L2.St} (w : Wd F.S F.B F.H) (hb : ∀ b ∈ F.bs, b ∈ F.S) (h : SlAll F F.S F.B F.H σ Γ) (hO : ∀ (i j : Nat), i ≠ j → (∃ s, Γ[i]? = some s ∧ isO s = true) → ¬ ∃ s, Γ[j]? = some s ∧ isO s = true) : En F F.S F.B F.H σ Γ :=
  ⟨w, fun a m => m, Ex.refl _, Xs.refl, hb, (fun b m z => by
    obtain ⟨o, ho⟩ := w.at_ b m
    rw [z] at ho
    cases ho), h.1, h.2, fun i j a hne hi hj _ _ => hO i j hne hi hj⟩
theorem noO (h : ∀ s ∈ Γ, isO s = false) : ∀ (i j : Nat), i ≠ j → (∃ s, Γ[i]? = some s ∧ isO s = true) → ¬ ∃ s, Γ[j]? = some s ∧ isO s = true := fun i j _ ⟨s, h1, h2⟩ => by
  rw [h s (List.mem_of_getElem? h1)] at h2
  cases h2
end
/-- what a def of data does, as its callers are promised -/
theorem fn_pure {K : PySem.W.Frag} {S : List Addr} {B H : Hp} {σ : L2.St} {Γ : En0} {t : TS} {d : PyData} {D : Ends} (w : Wd S B H) (h : SlAll ⟨K, S, B, H, []⟩ S B H σ Γ) (hΓ : (Γ.all fun s => !isO s) = true)
    (hx : SX ⟨K, S, B, H, []⟩ t Γ { nx := fun _ => False, rt := fun d' _ => d' = d }) (q : ∀ v B' H', Ex H H' → Ex B B' → Wd S B' H' → Dq K B' v d → D.rt v H') : t D σ H := by
  refine hx S B H σ D (En.start (F := ⟨K, S, B, H, []⟩) w (fun b m => by cases m) h (noO fun s m => by simpa using List.all_eq_true.mp hΓ s m)) ⟨fun S' B' H' σ' Γ' z => z.elim, fun S' B' H' σ' Γ' v d' hd e eB hv => ?_, fun S' B' H' σ' Γ' z => z.elim, fun S' B' H' σ' Γ' z => z.elim, fun S' B' H' σ' Γ' a xs ds z => z.elim⟩
  subst hd
  exact q v B' H' (fun a o g => e.xH a o List.not_mem_nil g) eB (e.w.weak e.sub) hv
/-- the law: True at each script -/
theorem fn_law {K : PySem.W.Frag} {H : Hp} {a : Addr} {ns : List Int} {σ : L2.St} {Γ : En0} {t : TS} {D : Ends} (hS : SqL K H a (ns.map V.int)) (h : SlAll ⟨K, [], H, H, []⟩ [] H H σ Γ) (hΓ : (Γ.all fun s => !isO s) = true)
    (hx : SX ⟨K, [], H, H, []⟩ t (some (.d (.list (ns.map .int))) :: Γ) { nx := fun _ => False, rt := fun d _ => d = .bool true }) (q : ∀ H', D.rt (.bl true) H') : t D (some (.ref a) :: σ) H := by
  have w0 : Wd [] H H := ⟨Ex.refl H, (fun s m => by cases m), (fun s m => by cases m)⟩
  refine hx [] H H _ D (En.start (F := ⟨K, [], H, H, []⟩) w0 (fun b m => by cases m) (sl_some (s := .d _) (.lst hS DqAll.ints) h) (noO fun s m => ?_)) ⟨fun S' B' H' σ' Γ' z => z.elim, fun S' B' H' σ' Γ' v d hd e eB hv => ?_, fun S' B' H' σ' Γ' z => z.elim, fun S' B' H' σ' Γ' z => z.elim, fun S' B' H' σ' Γ' a xs ds z => z.elim⟩
  · rcases List.mem_cons.mp m with rfl | m
    · rfl
    · simpa using List.all_eq_true.mp hΓ s m
  · subst hd
    cases hv
    exact q H'
/-! ### lists of one's own: made, told -/
def EO (K : PySem.W.Frag) (te : TE) (Γ : En0) (ds : List PyData) : Prop := ∀ σ B S H, EnvF K B σ Γ → Wd S B H → ∀ Q : VK, (∀ a xs B' H', H a = none → Ex H H' → Ex B B' → Wd (a :: S) B' H' → H' a = some (.lst xs) → DqAll K B' xs ds → Q (.ref a) H') → te σ H Q
/-- a def that tells a list of the caller's own -/
def spO (K : PySem.W.Frag) (f : List PyData → List PyData → Prop) : Sp := fun vs H Q _ => ∃ S B ds es, Wd S B H ∧ DqAll K B vs ds ∧ f ds es ∧
  ∀ a xs B' H', H a = none → Ex H H' → Ex B B' → Wd (a :: S) B' H' → H' a = some (.lst xs) → DqAll K B' xs es → Q (.ref a) H'
section
variable {F : Fr} {K : PySem.W.Frag} {S : List Addr} {B H : Hp} {σ : L2.St} {Γ : En0} {i j : Nat} {ds es : List PyData} {te : TE} {tA : TA} {P : Po} {D : Ends}
theorem wd_give {a : Addr} {o : HO} (w : Wd (a :: S) B H) (ha : H a = some o) (hn : a ∉ S) : Wd S (upd B a o) H := ⟨fun b u g => by
  by_cases z : b = a
  · subst z
    rw [upd_same] at g
    rw [ha]
    exact g
  · rw [upd_ne z] at g
    exact w.ex b u g, fun b m => by
  have z : b ≠ a := fun z => hn (z ▸ m)
  rw [upd_ne z]
  exact w.no b (List.mem_cons_of_mem _ m), fun b m => w.at_ b (List.mem_cons_of_mem _ m)⟩
/-- as data -/
theorem EO.data (h : EO K te Γ ds) : EE K te Γ (.list ds) := fun σ B e =>
  evR_of (fun S H w Q q => h σ B S H e w Q fun a xs B' H' hn eH eB w' ha hx => by
    have nS : a ∉ S := fun m => by
      obtain ⟨o, ho⟩ := w.at_ a m
      rw [hn] at ho
      cases ho
    have hB : B' a = none := w'.no a List.mem_cons_self
    have eB2 : Ex B' (upd B' a (.lst xs)) := Ex.new hB
    exact q (.ref a) (upd B' a (.lst xs)) H' eH (eB.trans eB2) (wd_give w' ha nS) (.lst (sq_of upd_same) (DqAll.mono eB2 hx))) stays_dp
theorem eo_is (h : EO K te Γ ds) (e : ds = es) : EO K te Γ es := by rw [← e]; exact h
theorem eo_call {f : List PyData → List PyData → Prop} {E : XK} (h : EA K tA Γ ds) (hf : f ds es) : EO K (tCall (spO K f) [] E tA) Γ es := fun σ B S H e w Q q =>
  (h σ B e).bind w fun vs B1 H1 e1 eB1 w1 rs => ⟨S, B1, ds, es, w1, by rw [List.append_nil]; exact rs, hf, fun a xs B' H' hn eH eB w' ha hx => q a xs B' H' (by
    cases z : H a with
    | none => rfl
    | some o =>
      rw [e1 _ _ z] at hn
      cases hn) (e1.trans eH) (eB1.trans eB) w' ha hx⟩
theorem eo_lst (h : EA K tA Γ ds) (hl : ds.length ≤ 100000) : EO K (tLst tA) Γ ds := fun σ B S H e w Q q =>
  (h σ B e).bind w fun vs B1 H1 e1 eB1 w1 rs => ⟨sz_of (by rw [DqAll.length rs]; exact hl), fun p hp => q p vs B1 _ (by
    cases z : H p with
    | none => rfl
    | some o =>
      rw [e1 _ _ z] at hp
      cases hp) (e1.trans (Ex.new hp)) eB1 (w1.own hp) upd_same rs⟩
theorem En.ofEO {a : Addr} {xs : List V} {B' H' : Hp} (e : En F S B H σ Γ) (eH : Ex H H') (eB : Ex B B') (w : Wd (a :: S) B' H') : En F (a :: S) B' H' σ Γ := ⟨w, fun x m => List.mem_cons_of_mem _ (e.sub x m), e.eB.trans eB, e.xH.trans (Xs.of eH), e.fb, e.hb0, e.len, fun i s h => by
  obtain ⟨v, h1, h2⟩ := e.ok i s h
  exact ⟨v, h1, h2.ext eH eB fun a m => List.mem_cons_of_mem _ m⟩, e.ap⟩
/-- return of a list of one's own -/
theorem s_retEO (h : EO F.K te (hide Γ) ds) (k : P.ro ds Γ) : SX F (tRet te) Γ P := fun S B H σ D e p =>
  h σ B S H e.hidden e.w _ fun a xs B' H' hn eH eB w ha hx => p.ro (a :: S) B' H' σ Γ a xs ds k (e.ofEO (xs := xs) eH eB w) eB List.mem_cons_self (e.freshH hn) ha hx
theorem s_retO (hi : Γ[i]? = some (some (.o .lst ds))) (k : P.ro ds Γ) : SX F (tRet (tVar i)) Γ P := fun S B H σ D e p => by
  obtain ⟨v, h1, ⟨a, xs, rfl, h3, h4, h5, h6⟩⟩ := e.ok i _ hi
  exact ⟨_, h1, p.ro S B H σ Γ a xs ds k e (Ex.refl _) h3 h4 h5 h6⟩
/-- what a def that tells an own list does -/
theorem fn_own {K : PySem.W.Frag} {S : List Addr} {B H : Hp} {σ : L2.St} {Γ : En0} {t : TS} {es : List PyData} {D : Ends} (w : Wd S B H) (h : SlAll ⟨K, S, B, H, []⟩ S B H σ Γ) (hΓ : (Γ.all fun s => !isO s) = true)
    (hx : SX ⟨K, S, B, H, []⟩ t Γ { nx := fun _ => False, rt := fun _ _ => False, ro := fun d' _ => d' = es }) (q : ∀ a xs B' H', H a = none → Ex H H' → Ex B B' → Wd (a :: S) B' H' → H' a = some (.lst xs) → DqAll K B' xs es → D.rt (.ref a) H') : t D σ H := by
  refine hx S B H σ D (En.start (F := ⟨K, S, B, H, []⟩) w (fun b m => by cases m) h (noO fun s m => by simpa using List.all_eq_true.mp hΓ s m)) ⟨fun S' B' H' σ' Γ' z => z.elim, fun S' B' H' σ' Γ' v d' z => z.elim, fun S' B' H' σ' Γ' z => z.elim, fun S' B' H' σ' Γ' z => z.elim, fun S' B' H' σ' Γ' a xs ds hd e eB m hn ha hx2 => ?_⟩
  subst hd
  exact q a xs B' H' hn (fun a o g => e.xH a o List.not_mem_nil g) eB (e.w.weak fun b hb => by
    rcases List.mem_cons.mp hb with rfl | hb
    · exact m
    · exact e.sub b hb) ha hx2
/-- a promise of own lists, as one of data -/
theorem spO_data {f : List PyData → List PyData → Prop} {vs : List V} {H : Hp} {Q : VK} {E : XK} (h : spD K (fun ds d => ∃ es, f ds es ∧ d = .list es) vs H Q E) : spO K f vs H Q E := by
  obtain ⟨S, B, ds, d, w, hd, ⟨es, hf, rfl⟩, q⟩ := h
  refine ⟨S, B, ds, es, w, hd, hf, fun a xs B' H' hn eH eB w' ha hx => ?_⟩
  have nS : a ∉ S := fun m => by
    obtain ⟨o, ho⟩ := w.at_ a m
    rw [hn] at ho
    cases ho
  have hB : B' a = none := w'.no a List.mem_cons_self
  have eB2 : Ex B' (upd B' a (.lst xs)) := Ex.new hB
  exact q (.ref a) (upd B' a (.lst xs)) H' eH (eB.trans eB2) (wd_give w' ha nS) (.lst (sq_of upd_same) (DqAll.mono eB2 hx))
end
end Pw

/-! ## PwE -/
namespace Pw
open PySem L2 Evl

def spWebL (K : PySem.W.Frag) : Sp := fun vs H Q _ => ∃ (S : List Addr) (b : Addr) (n : Int) (c : Nat), vs = [.ref b, .int n] ∧ b ∈ S ∧ (∀ s ∈ S, ∃ o, H s = some o) ∧ BoxAt H b c ∧ c + 1000 < 2 ^ 40 ∧ 1 ≤ n ∧ n ≤ 30 ∧
  ∀ v H' ts, WebOk n ts → (∀ t ∈ ts, t.2.2 ≤ 1000000000) → Dq K (mi H' S) v (webD n ts) → Bx b (c + 1000) H H' → Q v H'
/-- posts, drawn: two at least where there are so many places -/
structure PostsOk (n : Int) (ps : List Int) : Prop where
  rise : ps.Pairwise (· < ·)
  rng : ∀ p ∈ ps, 0 ≤ p ∧ p < n
def spPosts (K : PySem.W.Frag) : Sp := fun vs H Q _ => ∃ (S : List Addr) (b : Addr) (n m : Int) (c : Nat), vs = [.ref b, .int n, .int m] ∧ b ∈ S ∧ (∀ s ∈ S, ∃ o, H s = some o) ∧ BoxAt H b c ∧ c + 100 < 2 ^ 40 ∧ 1 ≤ n ∧ n ≤ 60 ∧ 2 ≤ m ∧ m ≤ 60 ∧
  ∀ v H' ps, PostsOk n ps → (2 ≤ n → 2 ≤ ps.length) → (ps.length : Int) ≤ m → ps ≠ [] → Dq K (mi H' S) v (.list (List.map PyData.int ps)) → Bx b (c + 100) H H' → Q v H'
/-! ### expressions that draw: i names the box, k draws at most -/
def EV (K : PySem.W.Frag) (i k : Nat) (te : TE) (Γ : En0) (R : PyData → Prop) : Prop := ∀ S b B σ, EnvF K B σ (hide Γ) → σ[i]? = some (some (.ref b)) → EvX S b k te σ B fun v B' => ∃ d, R d ∧ Dq K B' v d
/-- tests that draw -/
def EVB (K : PySem.W.Frag) (i k : Nat) (tt : TT) (Γ : En0) (R : Bool → Prop) : Prop := ∀ S b B σ, EnvF K B σ (hide Γ) → σ[i]? = some (some (.ref b)) → ∀ H c, Wd S B H → b ∈ S → BoxAt H b c → c + k ≤ lid → ∀ Q : Bool → Hp → Prop, (∀ x H', Xs [b] H H' → BoxAt H' b (c + k) → R x → Q x H') → tt σ H Q
/-- what a drawing def promises of these data -/
def DrawOk (K : PySem.W.Frag) (sp : Sp) (k : Nat) (ds : List PyData) (post : PyData → Prop) : Prop := ∀ S B H b c us (Q : VK) (E : XK), Wd S B H → b ∈ S → BoxAt H b c → c + k < 2 ^ 40 → DqAll K B us ds →
  (∀ v H' d, post d → Xs [b] H H' → BoxAt H' b (c + k) → Dq K (mi H' S) v d → Q v H') → sp (.ref b :: us) H Q E
def spX (K : PySem.W.Frag) (k : Nat) (f : List PyData → (PyData → Prop) → Prop) : Sp := fun vs H Q _ => ∃ S B b c us ds post, vs = .ref b :: us ∧ Wd S B H ∧ b ∈ S ∧ BoxAt H b c ∧ c + k < 2 ^ 40 ∧ DqAll K B us ds ∧ f ds post ∧
  ∀ v H' d, post d → Xs [b] H H' → BoxAt H' b (c + k) → Dq K (mi H' S) v d → Q v H'
theorem spX_ok {K : PySem.W.Frag} {k : Nat} {f : List PyData → (PyData → Prop) → Prop} {ds : List PyData} {post : PyData → Prop} (h : f ds post) : DrawOk K (spX K k f) k ds post := fun S B H b c us Q E w hb hB hc hd q => ⟨S, B, b, c, us, ds, post, rfl, w, hb, hB, hc, hd, h, q⟩
section
variable {F : Fr} {K : PySem.W.Frag} {S S' : List Addr} {B B' H H' : Hp} {σ : L2.St} {Γ : En0} {i j k m : Nat} {v : V} {d d' : PyData} {ds es : List PyData} {a b p : Addr} {c : Nat} {te ta tb tl tm ti : TE} {tt tw : TT} {tA : TA} {wi : TI} {g : TG} {R R' Ra Rc : PyData → Prop} {t u : TS} {P : Po} {D : Ends}
theorem take_ok {n : Int} (h1 : 1 ≤ n) (h2 : n < 2 ^ 100) : DrawOk K spTake 1 [.int n] fun d => ∃ v, d = .int v ∧ 0 ≤ v ∧ v < n := fun S B H b c us Q E w hb hB hc hd q => by
  cases hd with
  | cons g1 g2 =>
  cases g1
  cases g2
  exact ⟨b, n, c, rfl, hB, by omega, h1, h2, fun v H' l1 l2 x => q (.int v) H' (.int v) ⟨v, rfl, l1, l2⟩ x.x x.at_ (.int v)⟩
theorem many_ok {l f n : Int} (h1 : l ≤ f) (h2 : 7 ≤ n) (h3 : n < 2 ^ 60) (h4 : f - l < 2 ^ 60) : DrawOk K spMany 2 [.int l, .int f, .int n] fun d => ∃ v, d = .int v ∧ (l ≤ v ∧ v ≤ f ∨ 7 ≤ v ∧ v ≤ n) := fun S B H b c us Q E w hb hB hc hd q => by
  cases hd with
  | cons g1 g2 =>
  cases g2 with
  | cons g2 g3 =>
  cases g3 with
  | cons g3 g4 =>
  cases g1
  cases g2
  cases g3
  cases g4
  exact ⟨b, l, f, n, c, rfl, hB, hc, h1, h2, h3, h4, fun v H' l1 x => q (.int v) H' (.int v) ⟨v, rfl, l1⟩ x.x x.at_ (.int v)⟩
theorem web_ok {n : Int} (h1 : 1 ≤ n) (h2 : n ≤ 30) : DrawOk K (spWeb K) 1000 [.int n] fun d => ∃ ts, d = webD n ts ∧ WebOk n ts := fun S B H b c us Q E w hb hB hc hd q => by
  cases hd with
  | cons g1 g2 =>
  cases g1
  cases g2
  exact ⟨S, b, n, c, rfl, hb, w.at_, hB, hc, h1, h2, fun v H' ts hw hv x => q v H' _ ⟨ts, rfl, hw⟩ x.x x.at_ hv⟩
theorem v_pure (h : EE K te (hide Γ) d) : EV K i 0 te Γ fun x => x = d := fun S b B σ e hb => (EvR.x (h σ B e)).imp fun v B' r => ⟨d, rfl, r⟩
theorem EV.more (h : EV K i k te Γ R) (hk : k ≤ m) : EV K i m te Γ R := fun S b B σ e hb => (h S b B σ e hb).more hk
theorem EV.imp (h : EV K i k te Γ R) (f : ∀ d, R d → R' d) : EV K i k te Γ R' := fun S b B σ e hb => (h S b B σ e hb).imp fun v B' ⟨d, h1, h2⟩ => ⟨d, f d h1, h2⟩
theorem st_dp2 : Stays fun v B => ∃ d, R d ∧ Dq K B v d := fun v B B' e ⟨d, h1, h2⟩ => ⟨d, h1, Dq.mono e h2⟩
/-- a call of a drawing def -/
theorem v_call {sp : Sp} {E : XK} (ha : EA K tA (hide Γ) ds) (ok : DrawOk K sp k ds R) : EV K i (k + 1) (tCall sp [] E (tCons (tVar i) tA)) Γ R := fun S b B σ e hb => fun H c w hbS hB hl Q q =>
  ⟨_, hb, (ha σ B e).bind w fun us B1 H1 e1 eB1 w1 rs => by
    show sp ((V.ref b :: us) ++ []) H1 Q E
    rw [List.append_nil]
    exact ok S B1 H1 b c us Q E w1 hbS (hB.ex e1) (by unfold lid at hl; omega) rs fun v H' d hd x hB' hv => q v H' ((Xs.of e1).trans x) (hB'.mono (by omega)) ⟨d, hd, hv⟩⟩
/-- the argument drawn -/
theorem v_call1 {sp : Sp} {E : XK} (ha : EV K i m ta Γ Ra) (ok : ∀ d, Ra d → DrawOk K sp k [d] R) : EV K i (m + k + 1) (tCall sp [] E (tCons (tVar i) (tCons ta tNil))) Γ R := fun S b B σ e hb => fun H c w hbS hB hl Q q =>
  ⟨_, hb, (ha S b B σ e hb).bind w hbS hB (by omega) fun v B1 H1 x1 eB1 w1 hB1 ⟨d, hd, hv⟩ => ok d hd S B1 H1 b (c + m) [v] Q E w1 hbS hB1 (by unfold lid at hl; omega) (.cons hv .nil) fun v' H' d' hd' x hB' hv' => q v' H' (x1.trans x) (hB'.mono (by omega)) ⟨d', hd', hv'⟩⟩
/-- an operator that changes nothing, of data drawn -/
theorem v_op {r : R2} (ha : EV K i k ta Γ Ra) (hb : EV K i m tb Γ Rc) (ho : ∀ d1 d2, Ra d1 → Rc d2 → ∃ d, R d ∧ ∀ σ B x y, Dq K B x d1 → Dq K B y d2 → EvD K (tOp r (tC x) (tC y)) σ B d) : EV K i (k + m) (tOp r ta tb) Γ R := fun S b B σ e hx => fun H c w hbS hB hl Q q =>
  (ha S b B σ e hx).bind w hbS hB (by omega) fun v B1 H1 x1 eB1 w1 hB1 ⟨d1, r1, h1⟩ => (hb S b B1 σ (e.mono eB1) hx).bind w1 hbS hB1 (by omega) fun u B2 H2 x2 eB2 w2 hB2 ⟨d2, r2, h2⟩ => by
    obtain ⟨d, hd, ho⟩ := ho d1 d2 r1 r2
    have h3 : tOp r (tC v) (tC u) σ H2 Q := (ho σ B2 v u (Dq.mono eB2 h1) h2).bind w2 fun z B3 H3 e3 eB3 w3 hz => q z H3 ((x1.trans x2).trans (Xs.of e3)) ((hB2.ex e3).mono (by omega)) ⟨d, hd, Dq.mono (ex_mi w3.ex w3.no) hz⟩
    exact h3
theorem webL_ok {n : Int} (h1 : 1 ≤ n) (h2 : n ≤ 30) : DrawOk K (spWebL K) 1000 [.int n] fun d => ∃ ts, d = webD n ts ∧ WebOk n ts ∧ ∀ t ∈ ts, t.2.2 ≤ 1000000000 := fun S B H b c us Q E w hb hB hc hd q => by
  cases hd with
  | cons g1 g2 =>
  cases g1
  cases g2
  exact ⟨S, b, n, c, rfl, hb, w.at_, hB, hc, h1, h2, fun v H' ts hw hl hv x => q v H' _ ⟨ts, rfl, hw, hl⟩ x.x x.at_ hv⟩
theorem posts_ok {n m : Int} (h1 : 1 ≤ n) (h2 : n ≤ 60) (h3 : 2 ≤ m) (h4 : m ≤ 60) : DrawOk K (spPosts K) 100 [.int n, .int m] fun d => ∃ ps, d = .list (ps.map .int) ∧ PostsOk n ps ∧ (2 ≤ n → 2 ≤ ps.length) ∧ (ps.length : Int) ≤ m ∧ ps ≠ [] := fun S B H b c us Q E w hb hB hc hd q => by
  cases hd with
  | cons g1 g2 =>
  cases g2 with
  | cons g2 g3 =>
  cases g1
  cases g2
  cases g3
  exact ⟨S, b, n, m, c, rfl, hb, w.at_, hB, hc, h1, h2, h3, h4, fun v H' ps hp hl hm hne hv x => q v H' _ ⟨ps, rfl, hp, hl, hm, hne⟩ x.x x.at_ hv⟩
theorem weight_ok {n : Int} (h1 : 0 ≤ n) (h2 : n < 4) : DrawOk K spWeight 2 [.int n] fun d => ∃ v, d = .int v ∧ 1 ≤ v ∧ v ≤ 1000000000 := fun S B H b c us Q E w hb hB hc hd q => by
  cases hd with
  | cons g1 g2 =>
  cases g1
  cases g2
  exact ⟨b, n, c, rfl, hB, hc, h1, h2, fun v H' l1 l2 x => q (.int v) H' (.int v) ⟨v, rfl, l1, l2⟩ x.x x.at_ (.int v)⟩
/-- x[take(len)] of a list -/
theorem v_pick {E : XK} {n : Int} (ha : EE K ta (hide Γ) (.list ds)) (hm : EE K tm (hide Γ) (.int n)) (hn : n = (ds.length : Nat)) (h0 : 1 ≤ n) (h1 : n < 2 ^ 100) : EV K i (0 + (1 + 1)) (tOp (rIxL K) ta (tCall spTake [] E (tCons (tVar i) (tCons tm tNil)))) Γ fun d => d ∈ ds :=
  v_op (v_pure ha) (v_call (na_cons hm na_nil) (take_ok h0 h1)) fun d1 d2 r1 r2 => by
    obtain ⟨v, rfl, g1, g2⟩ := r2
    subst r1
    obtain ⟨d, hd⟩ : ∃ d, ds[v.toNat]? = some d := ⟨ds[v.toNat]'(by omega), List.getElem?_eq_getElem _⟩
    exact ⟨d, List.mem_of_getElem? hd, fun σ B x y hx hy => ev_ixL (ev_c hx) (ev_c hy) (atI_at g1 hd)⟩
/-- arguments that draw: one by one -/
def AV (K : PySem.W.Frag) (i k : Nat) (tA : TA) (Γ : En0) (R : List PyData → Prop) : Prop := ∀ S b B σ, EnvF K B σ (hide Γ) → σ[i]? = some (some (.ref b)) → ∀ H c, Wd S B H → b ∈ S → BoxAt H b c → c + k ≤ lid → ∀ Q : List V → Hp → Prop, (∀ vs H', Xs [b] H H' → BoxAt H' b (c + k) → (∃ ds, R ds ∧ DqAll K (mi H' S) vs ds) → Q vs H') → tA σ H Q
theorem av_pure (h : EA K tA (hide Γ) ds) : AV K i 0 tA Γ fun x => x = ds := fun S b B σ e hb H c w hbS hB hl Q q => (h σ B e).bind w fun vs B1 H1 e1 eB1 w1 rs => q vs H1 (Xs.of e1) (hB.ex e1) ⟨ds, rfl, DqAll.mono (ex_mi w1.ex w1.no) rs⟩
theorem av_nil : AV K i 0 tNil Γ fun x => x = [] := av_pure na_nil
theorem av_cons {Rs : List PyData → Prop} (ha : EV K i k ta Γ R) (hr : AV K i m tA Γ Rs) : AV K i (k + m) (tCons ta tA) Γ fun x => ∃ d ds, x = d :: ds ∧ R d ∧ Rs ds := fun S b B σ e hb H c w hbS hB hl Q q =>
  (ha S b B σ e hb).bind w hbS hB (by omega) fun v B1 H1 x1 eB1 w1 hB1 ⟨d, r1, h1⟩ => hr S b B1 σ (e.mono eB1) hb H1 (c + k) w1 hbS hB1 (by omega) _ fun vs H2 x2 hB2 ⟨ds, r2, h2⟩ =>
    q (v :: vs) H2 (x1.trans x2) (hB2.mono (by omega)) ⟨d :: ds, ⟨d, ds, rfl, r1, r2⟩, .cons (Dq.mono (ex_mi (x2.ex1 w1.ex (w1.no b hbS)) w1.no) h1) h2⟩
/-- what data behind arguments that drew -/
theorem v_arg {Rs : List PyData → Prop} {ka : TA → TE} (ha : AV K i k tA Γ Rs) (hk : ∀ σ H Q, tA σ H (fun vs H1 => ka (fun _ H' Q' => Q' vs H') σ H1 Q) → ka tA σ H Q) (ho : ∀ ds, Rs ds → ∃ d, R d ∧ ∀ σ B vs, DqAll K B vs ds → EvD K (ka fun _ H' Q' => Q' vs H') σ B d) : EV K i k (ka tA) Γ R := fun S b B σ e hx => fun H c w hbS hB hl Q q =>
  hk σ H Q (ha S b B σ e hx H c w hbS hB hl _ fun vs H1 x1 hB1 ⟨ds, r, h⟩ => by
    obtain ⟨d, hd, ho⟩ := ho ds r
    have w1 := w.xs hbS hB x1 hB1
    exact (ho σ (mi H1 S) vs h).bind w1 fun z B3 H3 e3 eB3 w3 hz => q z H3 (x1.trans (Xs.of e3)) (hB1.ex e3) ⟨d, hd, Dq.mono (ex_mi w3.ex w3.no) hz⟩)
theorem v_tup {Rs : List PyData → Prop} (ha : AV K i k tA Γ Rs) (hl : ∀ ds, Rs ds → ds.length ≤ 100000) : EV K i k (tTup tA) Γ fun x => ∃ ds, Rs ds ∧ x = .tuple ds :=
  v_arg (ka := tTup) ha (fun σ H Q h => h) fun ds r => ⟨_, ⟨ds, r, rfl⟩, fun σ B vs hv => ev_tup (tA := fun _ H' Q' => Q' vs H') (fun S H w Q q => q vs H (Ex.refl H) (DqAll.mono (ex_mi w.ex w.no) hv)) (hl ds r)⟩
theorem v_lst {Rs : List PyData → Prop} (ha : AV K i k tA Γ Rs) (hl : ∀ ds, Rs ds → ds.length ≤ 100000) : EV K i k (tLst tA) Γ fun x => ∃ ds, Rs ds ∧ x = .list ds :=
  v_arg (ka := tLst) ha (fun σ H Q h => h) fun ds r => ⟨_, ⟨ds, r, rfl⟩, fun σ B vs hv => ev_lst (tA := fun _ H' Q' => Q' vs H') (fun S H w Q q => q vs H (Ex.refl H) (DqAll.mono (ex_mi w.ex w.no) hv)) (hl ds r)⟩
/-- a built-in that changes nothing, of data drawn -/
theorem v_cb {r : List V → Hp → VK → Prop} {Rs : List PyData → Prop} (ha : AV K i k tA Γ Rs) (ho : ∀ ds, Rs ds → ∃ d, R d ∧ ∀ σ B vs, DqAll K B vs ds → EvD K (tCB r fun _ H' Q' => Q' vs H') σ B d) : EV K i k (tCB r tA) Γ R :=
  v_arg (ka := tCB r) ha (fun σ H Q h => h) ho
/-- a def that changes nothing, of data drawn -/
theorem v_callP {f : List PyData → PyData → Prop} {E : XK} {Rs : List PyData → Prop} (ha : AV K i k tA Γ Rs) (ho : ∀ ds, Rs ds → ∃ d, R d ∧ f ds d) : EV K i k (tCall (spD K f) [] E tA) Γ R :=
  v_arg (ka := tCall (spD K f) [] E) ha (fun σ H Q h => h) fun ds r => by
    obtain ⟨d, h1, h2⟩ := ho ds r
    exact ⟨d, h1, fun σ B vs hv => ev_call (tA := fun _ H' Q' => Q' vs H') (fun S H w Q q => q vs H (Ex.refl H) (DqAll.mono (ex_mi w.ex w.no) hv)) h2⟩
/-- a test of what was drawn -/
theorem vb_test (h : EV K i k te Γ R) (hb : ∀ d, R d → ∃ x, d = .bool x) : EVB K i k (tTest te) Γ fun x => R (.bool x) := fun S b B σ e hx H c w hbS hB hl Q q => (h S b B σ e hx).bind w hbS hB hl fun v B1 H1 x1 eB1 w1 hB1 ⟨d, hd, hv⟩ => by
  obtain ⟨x, rfl⟩ := hb d hd
  cases hv
  exact ⟨x, rfl, q x H1 x1 hB1 hd⟩
theorem vb_B (h : EV K i k te Γ R) (hb : ∀ d, R d → ∃ x, d = .bool x) : EVB K i k (tB te) Γ fun x => R (.bool x) := fun S b B σ e hx H c w hbS hB hl Q q => (h S b B σ e hx).bind w hbS hB hl fun v B1 H1 x1 eB1 w1 hB1 ⟨d, hd, hv⟩ => by
  obtain ⟨x, rfl⟩ := hb d hd
  cases hv
  exact ⟨x, rfl, q x H1 x1 hB1 hd⟩
theorem vb_not {Rb : Bool → Prop} (h : EVB K i k tt Γ Rb) : EVB K i k (tNot tt) Γ fun x => Rb (!x) := fun S b B σ e hx H c w hbS hB hl Q q => h S b B σ e hx H c w hbS hB hl _ fun x H' x1 hB1 r => q (!x) H' x1 hB1 (by show Rb (!!x); rw [Bool.not_not]; exact r)
/-- a pure test, then one that draws -/
theorem vb_and {x : Bool} {Rc : Bool → Prop} (h : x = x) (ht : EB K tt (hide Γ) x) (h2 : x = true → EVB K i k tw Γ Rc) : EVB K i k (tAnd tt tw) Γ fun y => (y = true → x = true ∧ Rc true) := fun S b B σ e hx H c w hbS hB hl Q q => (ht σ B e).bind w fun B1 H1 e1 eB1 w1 => by
  cases x with
  | false => exact q false H1 (Xs.of e1) ((hB.ex e1).mono (by omega)) (fun z => by cases z)
  | true => exact h2 rfl S b B1 σ (e.mono eB1) hx H1 c w1 hbS (hB.ex e1) hl _ fun y H2 x2 hB2 r2 => q y H2 ((Xs.of e1).trans x2) hB2 fun z => ⟨rfl, z ▸ r2⟩
theorem vb_pure {x : Bool} (h : EB K tt (hide Γ) x) : EVB K i 0 tt Γ fun y => y = x := fun S b B σ e hx H c w hbS hB hl Q q => (h σ B e).bind w fun B1 H1 e1 eB1 w1 => q x H1 (Xs.of e1) (hB.ex e1) rfl
/-- [e for x in l if t], t or e drawing: Pr what is true of those made -/
theorem v_lc {α : Type} (l : List α) (enc : α → PyData) (Pr : Nat → List PyData → Prop) {vs : List Nat} {k1 k2 : Nat} {Γ2 : α → En0} {Rb : α → Bool → Prop} {Re : α → PyData → Prop} (hk : EW K wi (hide Γ) (l.map enc)) (hl : l.length ≤ 40000) (h0 : Pr 0 []) (hlen : ∀ j ys, Pr j ys → ys.length ≤ j) (hi : i ∉ vs)
    (hg : ∀ a ∈ l, GN K g vs (wipeE (hide Γ) vs) (enc a) (Γ2 a)) (hG : ∀ a ∈ l, hide (Γ2 a) = Γ2 a) (ht : ∀ a ∈ l, EVB K i k1 tt (Γ2 a) (Rb a)) (he : ∀ a ∈ l, Rb a true → EV K i k2 te (Γ2 a) (Re a))
    (hy : ∀ j a ys, l[j]? = some a → Pr j ys → (∀ d, Rb a true → Re a d → Pr (j + 1) (ys ++ [d])) ∧ (Rb a false → Pr (j + 1) ys)) : EV K i (l.length * (k1 + k2)) (tLc wi g tt te vs) Γ fun x => ∃ ys, Pr l.length ys ∧ x = .list ys := fun S b B σ e hb => by
  refine (ex_lc l enc id Pr (hk σ B e) hl h0 hlen fun j a ys ha hP x S' B' H' c' eB w' hbS hB hl hx Qy Qn q1 q2 => ?_).imp fun v B' ⟨ys, h1, h2⟩ => ⟨_, ⟨ys, h1, rfl⟩, by rw [List.map_id] at h2; exact h2⟩
  have ha' := List.mem_of_getElem? ha
  refine hg a ha' S' B' H' _ x w' ((e.mono eB).wiped vs) hx _ fun σ' e' kk ll => ⟨wipe_back (ll.trans (wipe_length ..)) fun i m => by rw [kk i m, wipeS_get, if_neg m], ?_⟩
  have hb' : σ'[i]? = some (some (.ref b)) := by rw [kk i hi, wipeS_get, if_neg hi]; exact hb
  refine ht a ha' S' b B' σ' (by rw [hG a ha']; exact e') hb' H' c' w' hbS hB (by omega) _ fun y H2 x2 hB2 r2 => ?_
  have w2 := w'.xs hbS hB x2 hB2
  have e2 := w'.xsE hbS x2
  cases y with
  | true =>
    exact (he a ha' r2 S' b (mi H2 S') σ' (by rw [hG a ha']; exact e'.mono e2) hb').bind w2 hbS hB2 (by omega) fun v B3 H3 x3 eB3 w3 hB3 ⟨d, hd, hv⟩ => q1 d v B3 H3 (x2.trans x3) (hB3.mono (by omega)) w3 (e2.trans eB3) hv ((hy j a ys ha hP).1 d r2 hd)
  | false => exact q2 ((hy j a ys ha hP).2 r2) (mi H2 S') H2 x2 (hB2.mono (by omega)) w2 e2
/-! #### statements that draw -/
/-- the box after more draws -/
theorem En.box {c' : Nat} (e : En F S B H σ Γ) (hi : Γ[i]? = some (some (.b b c))) (x : Xs [b] H H') (hB : BoxAt H' b c') (w : Wd S B' H') (eB : Ex B B') : En F S B' H' σ (Γ.set i (some (.b b c'))) := by
  obtain ⟨v, h1, ⟨rfl, h3, h4, h5⟩⟩ := e.ok i _ hi
  refine ⟨w, e.sub, e.eB.trans eB, fun a o m g => x a o (fun z => ?_) (e.xH a o m g), e.fb, e.hb0, by rw [List.length_set]; exact e.len, fun j s hj => ?_, fun j k a hne hj hk g1 g2 => ?_⟩
  · rw [List.mem_singleton.mp z] at m g
    rcases h3 with h3 | h3
    · exact m h3
    · rw [h3] at g; cases g
  · rcases get_set hj with ⟨rfl, hs, _⟩ | ⟨hne, hj⟩
    · cases hs
      exact ⟨_, h1, rfl, h3, h4, hB⟩
    · obtain ⟨u, g1, g2⟩ := e.ok j s hj
      refine ⟨u, g1, ?_⟩
      match s, g2, hj with
      | .d x, g2, _ => exact Dq.mono eB g2
      | .q R, ⟨g2, g3⟩, _ => exact ⟨g2, g2 _ _ _ eB g3⟩
      | .o s ds, ⟨a, ys, k1, k2, k3, k4, k5⟩, hj =>
        have : a ≠ b := fun z => by
          subst z
          subst k1
          exact e.ap i j a hne ⟨_, hi, rfl⟩ ⟨_, hj, rfl⟩ h1 g1
        exact ⟨a, ys, k1, k2, k3, x a _ (fun z => this (List.mem_singleton.mp z)) k4, DqAll.mono eB k5⟩
      | .b a c2, ⟨k1, k2, k3, k4⟩, hj =>
        have : a ≠ b := fun z => by
          subst z
          subst k1
          exact e.ap i j a hne ⟨_, hi, rfl⟩ ⟨_, hj, rfl⟩ h1 g1
        obtain ⟨x1, y1, z1, l1, l2⟩ := k4
        exact ⟨k1, k2, k3, x1, y1, z1, x a _ (fun z => this (List.mem_singleton.mp z)) l1, l2⟩
  · have key : ∀ {j : Nat}, (∃ s_1, (Γ.set i (some (Sl.b b c')))[j]? = some s_1 ∧ isO s_1 = true) → ∃ s_1, Γ[j]? = some s_1 ∧ isO s_1 = true := fun {j} ⟨s, hs, o⟩ => by
      rcases get_set hs with ⟨rfl, _, _⟩ | ⟨_, hs⟩
      · exact ⟨_, hi, rfl⟩
      · exact ⟨s, hs, o⟩
    exact e.ap j k a hne (key hj) (key hk) g1 g2
theorem x_of (hi : Γ[i]? = some (some (.b b c))) (hc : c + k ≤ lid) (h : EV F.K i k te Γ R) : EX F te Γ fun d Γ' => R d ∧ Γ' = Γ.set i (some (.b b (c + k))) := fun S B H σ e Q q => by
  obtain ⟨v, h1, ⟨rfl, h3, h4, h5⟩⟩ := e.ok i _ hi
  exact (h S b B σ e.hidden h1).bind e.w h4 h5 hc fun v B' H' x eB w' hB' ⟨d, hd, hv⟩ => q v S B' H' d _ ⟨hd, rfl⟩ (e.box hi x hB' w' eB) eB hv
theorem s_asgV (hi : Γ[i]? = some (some (.b b c))) (h : EV F.K i k te Γ R) (hc : c + k ≤ lid) (kk : ∀ d, R d → P.nx ((Γ.set i (some (.b b (c + k)))).set j (some (.d d)))) : SX F (tAsg te (gName j)) Γ P :=
  s_asgX (x_of hi hc h) fun d Γ' ⟨h1, h2⟩ => by subst h2; exact kk d h1
theorem s_retV (hi : Γ[i]? = some (some (.b b c))) (h : EV F.K i k te Γ R) (hc : c + k ≤ lid) (kk : ∀ d, R d → P.rt d (Γ.set i (some (.b b (c + k))))) : SX F (tRet te) Γ P :=
  s_retX (x_of hi hc h) fun d Γ' ⟨h1, h2⟩ => by subst h2; exact kk d h1
theorem s_appV (hi : Γ[i]? = some (some (.b b c))) (ho : Γ[j]? = some (some (.o .lst ds))) (hij : i ≠ j) (hl : ds.length ≤ 40000) (h : EV F.K i k te Γ R) (hc : c + k ≤ lid) (kk : ∀ d, R d → P.nx ((Γ.set i (some (.b b (c + k)))).set j (some (.o .lst (ds ++ [d]))))) : SX F (tDrop (tBM F.K "list" rAppend (tVar j) (tCons te tNil))) Γ P :=
  s_appX ho hl (x_of hi hc h) fun d Γ' ⟨h1, h2⟩ => by subst h2; exact ⟨by rw [List.getElem?_set_ne hij]; exact ho, kk d h1⟩
theorem s_ifV {Rb : Bool → Prop} (hi : Γ[i]? = some (some (.b b c))) (h : EVB F.K i k tt Γ Rb) (hc : c + k ≤ lid) (h1 : Rb true → SX F t (Γ.set i (some (.b b (c + k)))) P) (h2 : Rb false → SX F u (Γ.set i (some (.b b (c + k)))) P) : SX F (tIfS tt t u) Γ P := fun S B H σ D e p => by
  obtain ⟨v, g1, ⟨rfl, g3, g4, g5⟩⟩ := e.ok i _ hi
  refine h S b B σ e.hidden g1 H c e.w g4 g5 hc _ fun x H' xH hB' r => ?_
  have e' := e.box hi xH hB' (e.w.xs g4 g5 xH hB') (e.w.xsE g4 xH)
  cases x with
  | true => exact h1 r S _ H' σ D e' (p.mono (e.w.xsE g4 xH))
  | false => exact h2 r S _ H' σ D e' (p.mono (e.w.xsE g4 xH))
/-- a, b = e, drawn -/
theorem s_asgTV {Γ2 : PyData → En0} (hi : Γ[i]? = some (some (.b b c))) (h : EV F.K i k te Γ R) (hc : c + k ≤ lid) (hg : ∀ d, R d → GT F g (Γ.set i (some (.b b (c + k)))) d (Γ2 d)) (kk : ∀ d, R d → P.nx (Γ2 d)) : SX F (tAsg te g) Γ P := fun S B H σ D e p =>
  x_of hi hc h S B H σ e _ fun v S' B' H' d Γ' ⟨h1, h2⟩ e' eB hv => by subst h2; exact hg d h1 S' B' H' σ v e' hv _ fun σ' e2 => p.nx S' B' H' σ' _ (kk d h1) e2 eB
/-- the box made -/
theorem s_box {E : XK} {ns : List Int} {k : Nat} (ha : EA F.K tA (hide Γ) [.list (ns.map .int), .int (k : Int)]) (hk : k < 100) (kk : ∀ b, P.nx (Γ.set j (some (.b b 0)))) : SX F (tAsg (tCall (spBox F.K) [] E tA) (gName j)) Γ P := fun S B H σ D e p =>
  (ha σ B e.hidden).bind e.w fun vs B1 H1 e1 eB1 w1 rs => by
    obtain ⟨v1, v2, rfl, r1, r2⟩ := two_args rs
    cases r2
    cases r1 with
    | @lst l xs _ hs hd =>
    have ee := DqAll.ints_eq hd
    subst ee
    refine ⟨l, ns, k, rfl, ex_l w1.ex hs, hk, fun b H' hb eH hB => ?_⟩
    have en := e.ext e1 eB1 w1
    have w2 := w1.ownX hb eH hB.some
    have e2 : En F (b :: S) B1 H' σ Γ := ⟨w2, fun a m => List.mem_cons_of_mem _ (en.sub a m), en.eB, en.xH.trans (Xs.of eH), en.fb, en.hb0, en.len, fun i s h => by
      obtain ⟨v, h1, h2⟩ := en.ok i s h
      exact ⟨v, h1, h2.ext eH (Ex.refl _) fun a m => List.mem_cons_of_mem _ m⟩, en.ap⟩
    refine p.nx (b :: S) B1 H' _ _ (kk b) (e2.set (t := .b b 0) ⟨rfl, .inr (en.freshH hb), List.mem_cons_self, hB⟩ fun _ j' a hj ⟨u, hu, ou⟩ hv z => ?_) eB1
    cases hv
    match u, ou with
    | some (.o s' ds'), _ =>
      obtain ⟨v', h1, ⟨a', xs', h2, h3, h4, h5, h6⟩⟩ := en.ok j' _ hu
      rw [h1] at z
      cases z
      cases h2
      rw [hb] at h5
      cases h5
    | some (.b a' c), _ =>
      obtain ⟨v', h1, ⟨h2, h3, h4, h5⟩⟩ := en.ok j' _ hu
      rw [h1] at z
      cases z
      cases h2
      obtain ⟨o, ho⟩ := h5.some
      rw [hb] at ho
      cases ho
/-- an own list's element -/
theorem x_ixO {R : PyData → En0 → Prop} (hk : EX F ti Γ R) (h : ∀ d Γ', R d Γ' → ∃ (q : Int) (ds : List PyData), d = .int q ∧ Γ'[j]? = some (some (.o .lst ds)) ∧ 0 ≤ q ∧ q < ds.length) (hj : ∃ ds, Γ[j]? = some (some (.o .lst ds))) :
    EX F (tOp (rIxL F.K) (tVar j) ti) Γ fun x Γ' => ∃ (q : Int) (ds : List PyData), R (.int q) Γ' ∧ Γ'[j]? = some (some (.o .lst ds)) ∧ ds[q.toNat]? = some x := fun S B H σ e Q kk => by
  obtain ⟨ds0, hj⟩ := hj
  obtain ⟨v0, g1, ⟨a, xs, rfl, g3, g4, g5, g6⟩⟩ := e.ok j _ hj
  refine ⟨_, g1, hk S B H σ e _ fun v S' B' H' d Γ' r e' eB hv => ?_⟩
  obtain ⟨q, ds, rfl, h1, h2, h3⟩ := h d Γ' r
  cases hv
  obtain ⟨v0', k1, ⟨a', xs', k2, k3, k4, k5, k6⟩⟩ := e'.ok j _ h1
  rw [g1] at k1
  cases k1
  cases k2
  have k5 : H' a = some (.lst xs') := k5
  have hl := DqAll.length k6
  obtain ⟨x, hx⟩ : ∃ x, xs'[q.toNat]? = some x := ⟨xs'[q.toNat]'(by omega), List.getElem?_eq_getElem _⟩
  obtain ⟨d, hd, hdq⟩ := DqAll.get k6 hx
  exact ⟨a, xs', q, x, rfl, rfl, sq_of k5, atI_at h2 hx, kk x S' B' H' d Γ' ⟨q, ds, r, h1, hd⟩ e' eB hdq⟩
/-- a built-in of one datum -/
theorem x_cb1 {r : List V → Hp → VK → Prop} {R R' : PyData → En0 → Prop} (h : EX F te Γ R) (ho : ∀ d Γ', R d Γ' → ∃ d', R' d' Γ' ∧ ∀ σ B x, Dq F.K B x d → EvD F.K (tCB r (tCons (tC x) tNil)) σ B d') : EX F (tCB r (tCons te tNil)) Γ R' := fun S B H σ e Q q =>
  h S B H σ e _ fun v S' B' H' d Γ' rr e' eB hv => by
    obtain ⟨d', h1, h2⟩ := ho d Γ' rr
    have h3 : tCB r (tCons (tC v) tNil) σ H' Q := (h2 σ B' v hv).bind e'.w fun z B3 H3 e3 eB3 w3 hz => q z S' B3 H3 d' Γ' h1 (e'.ext e3 eB3 w3) (eB.trans eB3) hz
    exact h3
/-- what a drawing def does, as its callers are promised: the box is its first name -/
theorem fn_draw {b : Addr} {c k : Nat} {R : PyData → Prop} (w : Wd S B H) (hb : b ∈ S) (h : SlAll ⟨K, S, B, H, [b]⟩ S B H σ (some (.b b c) :: Γ)) (hΓ : (Γ.all fun s => !isO s) = true)
    (hx : SX ⟨K, S, B, H, [b]⟩ t (some (.b b c) :: Γ) { nx := fun _ => False, rt := fun d Γ' => R d ∧ ∃ c', Γ'[0]? = some (some (.b b c')) ∧ c' ≤ c + k }) (q : ∀ v H' d, R d → Xs [b] H H' → BoxAt H' b (c + k) → Dq K (mi H' S) v d → D.rt v H') : t D σ H := by
  refine hx S B H σ D (En.start (F := ⟨K, S, B, H, [b]⟩) w (fun a m => by rw [List.mem_singleton.mp m]; exact hb) h fun i j hne ⟨s, h1, h2⟩ ⟨s2, h3, h4⟩ => ?_) ⟨fun S' B' H' σ' Γ' z => z.elim, fun S' B' H' σ' Γ' v d ⟨hd, c', hc, hle⟩ e eB hv => ?_, fun S' B' H' σ' Γ' z => z.elim, fun S' B' H' σ' Γ' z => z.elim, fun S' B' H' σ' Γ' a xs ds z => z.elim⟩
  · have key : ∀ {i : Nat} {s : Option Sl}, i ≠ 0 → (some (Sl.b b c) :: Γ)[i]? = some s → isO s = true → False := fun {i s} hi h1 h2 => by
      match i, hi, h1 with
      | i + 1, _, h1 =>
        have := List.all_eq_true.mp hΓ s (List.mem_of_getElem? h1)
        rw [h2] at this
        cases this
    by_cases z : i = 0
    · exact key (fun y => hne (z.trans y.symm)) h3 h4
    · exact key z h1 h2
  · obtain ⟨u, g1, ⟨g2, g3, g4, g5⟩⟩ := e.ok 0 _ hc
    have w' := e.w.weak e.sub
    exact q v H' d hd e.xH (g5.mono hle) (Dq.mono (ex_mi w'.ex w'.no) hv)
end
end Pw

/-! ## PwO -/
namespace Pw
open PySem L2 Evl
section
variable {F : Fr} {K : PySem.W.Frag} {S S' : List Addr} {B B' H H' : Hp} {σ : L2.St} {Γ : En0} {i j k m : Nat} {v : V} {d d' : PyData} {ds es : List PyData} {a b p : Addr} {c : Nat} {te ta tb tl tn ti : TE} {tt tw : TT} {tA : TA} {wi : TI} {g : TG} {R R' Ra Rc : PyData → Prop} {t u : TS} {P : Po} {D : Ends}
theorem flat_one {α : Type} (x : α) : ∀ n : Nat, (List.replicate n [x]).flatten = List.replicate n x
  | 0 => rfl
  | n + 1 => by rw [List.replicate_succ, List.flatten_cons, flat_one x n, List.replicate_succ]; rfl
theorem DqAll.rep {x : V} (h : Dq K B x d) : ∀ n : Nat, DqAll K B (List.replicate n x) (List.replicate n d)
  | 0 => .nil
  | n + 1 => .cons h (DqAll.rep h n)
theorem DqAll.set {xs : List V} (h : DqAll K B xs ds) (hv : Dq K B v d) : ∀ (j : Nat), DqAll K B (xs.set j v) (ds.set j d) := by
  intro j
  induction j generalizing xs ds with
  | zero =>
    cases h with
    | nil => exact .nil
    | cons h1 h2 => exact .cons hv h2
  | succ j ih =>
    cases h with
    | nil => exact .nil
    | cons h1 h2 => exact .cons h1 (ih h2)
/-- [e] * n: an own list -/
theorem s_rep {n : Int} (h : EE F.K te (hide Γ) d) (hn : EE F.K tn (hide Γ) (.int n)) (h0 : 0 ≤ n ∧ n ≤ 40000) (kk : P.nx (Γ.set i (some (.o .lst (List.replicate n.toNat d))))) : SX F (tAsg (tOp rRep (tLst (tCons te tNil)) tn) (gName i)) Γ P := fun S B H σ D e p =>
  e.ev h fun v B1 H1 eB1 e1 r => ⟨(by show 1 ≤ sizeLine; decide), fun q hq => by
    have e2 : En F S B1 (upd H1 q (.lst [v])) σ Γ := e1.ext (Ex.new hq) (Ex.refl _) (e1.w.ext (Ex.new hq))
    refine (hn σ B1 e2.hidden).bind e2.w fun z B2 H2 e3 eB2 w2 rz => ?_
    cases rz
    refine ⟨q, n, [v], rfl, rfl, e3 _ _ upd_same, by omega, by omega, ?_, fun p2 hp2 => ?_⟩
    · show 1 * n.toNat ≤ sizeLine
      have : sizeLine = 100000 ∨ 40000 ≤ sizeLine := .inr (by decide)
      omega
    · rw [flat_one]
      exact p.nx _ _ _ _ _ kk ((e2.ext e3 eB2 w2).own (s := .lst) hp2 (DqAll.rep (Dq.mono eB2 r) _)) (eB1.trans eB2)⟩
/-- x[k] = e -/
theorem s_setX {R : PyData → En0 → Prop} {kI : Int} (h : EX F te Γ R) (kk : ∀ d Γ', R d Γ' → ∃ ds : List PyData, Γ'[i]? = some (some (.o .lst ds)) ∧ EE F.K ti Γ' (.int kI) ∧ 0 ≤ kI ∧ kI < ds.length ∧ P.nx (Γ'.set i (some (.o .lst (ds.set kI.toNat d))))) : SX F (tAsg te (gSub (tVar i) ti rSetL)) Γ P := fun S B H σ D e p =>
  h S B H σ e _ fun v S1 B1 H1 d Γ1 r e1 eB1 hv => by
    obtain ⟨ds, h1, h2, h3, h4, h5⟩ := kk d Γ1 r
    obtain ⟨v0, g1, ⟨a, xs, rfl, g3, g4, g5, g6⟩⟩ := e1.ok i _ h1
    refine ⟨_, g1, e1.evA h2 rfl fun z B2 H2 eB2 e2 rz => ?_⟩
    cases rz
    obtain ⟨v0', k1, ⟨a', xs', k2, k3, k4, k5, k6⟩⟩ := e2.ok i _ h1
    rw [g1] at k1
    cases k1
    cases k2
    have k5 : H2 a = some (.lst xs') := k5
    have hl : xs'.length = ds.length := DqAll.length k6
    refine ⟨a, xs', kI, kI.toNat, rfl, rfl, k5, ?_, ?_⟩
    · unfold ixN
      rw [if_pos h3, if_pos (by omega)]
    · exact p.nx _ _ _ _ _ h5 (e2.chg (s' := .lst) (xs' := xs'.set kI.toNat v) h1 g1 (DqAll.set k6 (Dq.mono eB2 hv) _)) (eB1.trans eB2)
theorem s_set {kI : Int} (hi : Γ[i]? = some (some (.o .lst ds))) (h : EE F.K te Γ d) (ha : noL d = true) (hk : EE F.K ti Γ (.int kI)) (h0 : 0 ≤ kI) (h1 : kI < ds.length) (kk : P.nx (Γ.set i (some (.o .lst (ds.set kI.toNat d))))) : SX F (tAsg te (gSub (tVar i) ti rSetL)) Γ P :=
  s_setX (kI := kI) (x_atom h ha) fun x Γ' ⟨g1, g2⟩ => by subst g1 g2; exact ⟨ds, hi, hk, h0, h1, kk⟩
/-- x[..] = e, the place drawn -/
theorem s_setV {kp : Int → Prop} (hb : Γ[j]? = some (some (.b b c))) (hi : Γ[i]? = some (some (.o .lst ds))) (hij : j ≠ i) (h : EE F.K te Γ d) (ha : noL d = true) (hk : EV F.K j k ti Γ fun x => ∃ q, x = .int q ∧ kp q) (hc : c + k ≤ lid) (h0 : ∀ q, kp q → 0 ≤ q ∧ q < ds.length)
    (kk : ∀ q, kp q → P.nx ((Γ.set j (some (.b b (c + k)))).set i (some (.o .lst (ds.set q.toNat d))))) : SX F (tAsg te (gSub (tVar i) ti rSetL)) Γ P := fun S B H σ D e p =>
  e.evA h ha fun v B1 H1 eB1 e1 hv => by
    obtain ⟨v0, g1, ⟨a, xs, rfl, g3, g4, g5, g6⟩⟩ := e1.ok i _ hi
    refine ⟨_, g1, x_of hb hc hk S B1 H1 σ e1 _ fun z S2 B2 H2 dz Γ2 ⟨⟨q, hz, hq⟩, hΓ⟩ e2 eB2 rz => ?_⟩
    subst hz hΓ
    cases rz
    have hi2 : (Γ.set j (some (Sl.b b (c + k))))[i]? = some (some (.o .lst ds)) := by rw [List.getElem?_set_ne hij]; exact hi
    obtain ⟨v0', k1, ⟨a', xs', k2, k3, k4, k5, k6⟩⟩ := e2.ok i _ hi2
    rw [g1] at k1
    cases k1
    cases k2
    have k5 : H2 a = some (.lst xs') := k5
    have hl : xs'.length = ds.length := DqAll.length k6
    obtain ⟨h3, h4⟩ := h0 q hq
    refine ⟨a, xs', q, q.toNat, rfl, rfl, k5, ?_, ?_⟩
    · unfold ixN
      rw [if_pos h3, if_pos (by omega)]
    · exact p.nx _ _ _ _ _ (kk q hq) (e2.chg (s' := .lst) (xs' := xs'.set q.toNat v) hi2 g1 (DqAll.set k6 (Dq.mono eB2 hv) _)) (eB1.trans eB2)
/-- [e] * n -/
theorem n_rep {n : Int} (h : EE K te Γ d) (hn : EE K tn Γ (.int n)) (h0 : 0 ≤ n ∧ n ≤ 40000) : EE K (tOp rRep (tLst (tCons te tNil)) tn) Γ (.list (List.replicate n.toNat d)) := fun σ B e =>
  evR_of (fun S H w Q q => (h σ B e).bind w fun v B1 H1 e1 eB1 w1 r => ⟨(by show 1 ≤ sizeLine; decide), fun x hx => ((hn σ B e).mono eB1).bind (w1.ext (Ex.new hx)) fun z B2 H2 e3 eB2 w2 rz => by
    cases rz
    refine ⟨x, n, [v], rfl, rfl, e3 _ _ upd_same, by omega, by omega, ?_, fun p2 hp2 => ?_⟩
    · show 1 * n.toNat ≤ sizeLine
      have : sizeLine = 100000 ∨ 40000 ≤ sizeLine := .inr (by decide)
      omega
    · rw [flat_one]
      exact q (.ref p2) _ _ (((e1.trans (Ex.new hx)).trans e3).trans (Ex.new hp2)) ((eB1.trans eB2).trans (w2.newE (o := .lst (List.replicate n.toNat v)) hp2)) (w2.new hp2) (.lst (sq_of upd_same) (DqAll.rep (Dq.mono (eB2.trans (w2.newE hp2)) r) _))⟩) stays_dp
/-- an own list by a comprehension -/
theorem s_lc (hl : ∀ σ B S H, EnvF F.K B σ (hide Γ) → Wd S B H → ∀ Q : VK, (∀ a xs B' H', H a = none → Ex H H' → Ex B B' → Wd (a :: S) B' H' → H' a = some (.lst xs) → DqAll F.K B' xs ds → Q (.ref a) H') → te σ H Q) (kk : P.nx (Γ.set i (some (.o .lst ds)))) : SX F (tAsg te (gName i)) Γ P := fun S B H σ D e p =>
  hl σ B S H e.hidden e.w _ fun a xs B' H' ha eH eB w hA hx => by
    have e2 : En F (a :: S) B' H' σ Γ := ⟨w, fun x m => List.mem_cons_of_mem _ (e.sub x m), e.eB.trans eB, e.xH.trans (Xs.of eH), e.fb, e.hb0, e.len, fun i s h => by
      obtain ⟨v, h1, h2⟩ := e.ok i s h
      exact ⟨v, h1, h2.ext eH eB fun a m => List.mem_cons_of_mem _ m⟩, e.ap⟩
    refine p.nx (a :: S) B' H' _ _ kk (e2.set (t := .o .lst ds) ⟨a, xs, rfl, List.mem_cons_self, e.freshH ha, hA, hx⟩ fun _ j' a' hj ⟨u, hu, ou⟩ hv z => ?_) eB
    cases hv
    match u, ou with
    | some (.o s' ds'), _ =>
      obtain ⟨v', h1, ⟨a', xs', h2, h3, h4, h5, h6⟩⟩ := e.ok j' _ hu
      rw [h1] at z
      cases z
      cases h2
      rw [ha] at h5
      cases h5
    | some (.b a' c), _ =>
      obtain ⟨v', h1, ⟨h2, h3, h4, h5⟩⟩ := e.ok j' _ hu
      rw [h1] at z
      cases z
      cases h2
      obtain ⟨o, ho⟩ := h5.some
      rw [ha] at ho
      cases ho
/-- [e for x in l if t]: an own list -/
theorem s_lcO {α : Type} (l : List α) (enc : α → PyData) (f : α → Bool) (e : α → PyData) {vs : List Nat} (hk : EW F.K wi (hide Γ) (l.map enc)) (hl : l.length ≤ 40000) (turn : ∀ a ∈ l, NTurn F.K g tt te (hide Γ) vs (enc a) (f a) (e a)) (kk : P.nx (Γ.set i (some (.o .lst ((l.filter f).map e))))) : SX F (tAsg (tLc wi g tt te vs) (gName i)) Γ P :=
  s_lc (fun σ B S H hE w Q q => lc_ownP l enc f e (hk σ B hE) hl (fun a ha => turn a ha σ B hE) w q) kk
theorem s_lcO1 {α : Type} (l : List α) (enc : α → PyData) (e : α → PyData) {vs : List Nat} (hk : EW F.K wi (hide Γ) (l.map enc)) (hl : l.length ≤ 40000) (turn : ∀ a ∈ l, NTurn F.K g tYes te (hide Γ) vs (enc a) true (e a)) (kk : P.nx (Γ.set i (some (.o .lst (l.map e))))) : SX F (tAsg (tLc wi g tYes te vs) (gName i)) Γ P :=
  s_lcO l enc (fun _ => true) e hk hl turn (by rw [List.filter_eq_self.mpr fun _ _ => rfl]; exact kk)
end
end Pw

/-! ## PwFracA -/
namespace Pw
/-! ### fractions: sizes of numbers, lowest terms -/
/-- less than k signs -/
def Bit (i : Int) (k : Nat) : Prop := i.natAbs < 2 ^ k
theorem Bit.mono {i : Int} {k m : Nat} (h : Bit i k) (hk : k ≤ m) : Bit i m := Nat.lt_of_lt_of_le h (Nat.pow_le_pow_right (by decide) hk)
theorem Bit.mul {i j : Int} {k m : Nat} (h : Bit i k) (g : Bit j m) : Bit (i * j) (k + m) := by
  unfold Bit at *
  rw [Int.natAbs_mul, Nat.pow_add]
  exact Nat.mul_lt_mul'' h g
theorem Bit.add {i j : Int} {k : Nat} (h : Bit i k) (g : Bit j k) : Bit (i + j) (k + 1) := by
  unfold Bit at *
  rw [Nat.pow_succ]
  omega
theorem Bit.sub {i j : Int} {k : Nat} (h : Bit i k) (g : Bit j k) : Bit (i - j) (k + 1) := by
  unfold Bit at *
  rw [Nat.pow_succ]
  omega
theorem Bit.log {i : Int} {k : Nat} (h : Bit i k) : i.natAbs.log2 ≤ k := by
  by_cases z : i.natAbs = 0
  · rw [z]; exact Nat.zero_le _
  · exact Nat.le_of_lt ((Nat.log2_lt z).mpr h)
theorem Bit.of {i : Int} {k : Nat} (h1 : -(2 ^ k : Int) < i) (h2 : i < 2 ^ k) : Bit i k := by
  unfold Bit
  have : ((2 ^ k : Nat) : Int) = 2 ^ k := by simp
  omega
/-- a fraction whose both numbers have less than k signs -/
structure RBit (r : Rat) (k : Nat) : Prop where
  n : Bit r.num k
  d : Bit r.den k
theorem RBit.mono {r : Rat} {k m : Nat} (h : RBit r k) (hk : k ≤ m) : RBit r m := ⟨h.n.mono hk, h.d.mono hk⟩
/-- lowest terms of two numbers -/
theorem divInt_num (a b : Int) (hb : 0 < b) : (Rat.divInt a b).num = a / (Int.gcd a b : Int) ∧ ((Rat.divInt a b).den : Int) = b / (Int.gcd a b : Int) := by
  rw [Rat.num_divInt, Rat.den_divInt, if_neg (by omega), Int.sign_eq_one_of_pos hb, Int.one_mul, Int.gcd_comm b a]
  refine ⟨rfl, ?_⟩
  have e : ((b.natAbs : Nat) : Int) = b := by omega
  rw [Int.natCast_ediv, e]
/-- the lower one below nought -/
theorem divInt_num_neg (a b : Int) (hb : b < 0) : (Rat.divInt a b).num = a / (-(Int.gcd a b : Int)) ∧ ((Rat.divInt a b).den : Int) = b / (-(Int.gcd a b : Int)) := by
  have h := divInt_num (-a) (-b) (by omega)
  rw [Rat.neg_divInt_neg] at h
  have e : Int.gcd (-a) (-b) = Int.gcd a b := by rw [Int.gcd_neg, Int.neg_gcd]
  rw [e] at h
  have d1 : ((Int.gcd a b : Nat) : Int) ∣ a := Int.gcd_dvd_left ..
  have d2 : ((Int.gcd a b : Nat) : Int) ∣ b := Int.gcd_dvd_right ..
  rw [Int.ediv_neg, Int.ediv_neg, ← Int.neg_ediv_of_dvd d1, ← Int.neg_ediv_of_dvd d2]
  exact h
theorem divInt_bit {a b : Int} {k : Nat} (hb : 0 < b) (ha : Bit a k) (hb2 : Bit b k) : RBit (Rat.divInt a b) k := by
  obtain ⟨h1, h2⟩ := divInt_num a b hb
  have hg : 0 < Int.gcd a b := Nat.pos_of_ne_zero fun z => by rw [Int.gcd_eq_zero_iff] at z; omega
  have key : ∀ x : Int, ((Int.gcd a b : Nat) : Int) ∣ x → (x / (Int.gcd a b : Int)).natAbs ≤ x.natAbs := fun x ⟨y, hy⟩ => by
    rw [hy, Int.mul_ediv_cancel_left _ (by omega), Int.natAbs_mul]
    exact Nat.le_mul_of_pos_left _ (by omega)
  refine ⟨?_, ?_⟩
  · unfold Bit
    rw [h1]
    exact Nat.lt_of_le_of_lt (key a (Int.gcd_dvd_left ..)) ha
  · unfold Bit
    rw [h2]
    exact Nat.lt_of_le_of_lt (key b (Int.gcd_dvd_right ..)) hb2
theorem den_pos (r : Rat) : (0 : Int) < r.den := by have := r.den_nz; omega
theorem rat_add (x y : Rat) : Rat.divInt (x.num * y.den + y.num * x.den) (x.den * y.den) = x + y := by
  rw [Rat.add_def', ← Rat.divInt_ofNat, Int.natCast_mul]
theorem rat_sub (x y : Rat) : Rat.divInt (x.num * y.den - y.num * x.den) (x.den * y.den) = x - y := by
  rw [Rat.sub_def', ← Rat.divInt_ofNat, Int.natCast_mul]
theorem rat_mul (x y : Rat) : Rat.divInt (x.num * y.num) (x.den * y.den) = x * y := by
  rw [Rat.mul_def', ← Rat.divInt_ofNat, Int.natCast_mul]
theorem RBit.add {x y : Rat} {k m : Nat} (h : RBit x k) (g : RBit y m) : RBit (x + y) (k + m + 1) := by
  rw [← rat_add]
  refine divInt_bit (Int.mul_pos (den_pos x) (den_pos y)) ?_ ((h.d.mul g.d).mono (by omega))
  exact (h.n.mul g.d).add (by rw [Nat.add_comm k m]; exact g.n.mul h.d)
theorem RBit.sub {x y : Rat} {k m : Nat} (h : RBit x k) (g : RBit y m) : RBit (x - y) (k + m + 1) := by
  rw [← rat_sub]
  refine divInt_bit (Int.mul_pos (den_pos x) (den_pos y)) ?_ ((h.d.mul g.d).mono (by omega))
  exact (h.n.mul g.d).sub (by rw [Nat.add_comm k m]; exact g.n.mul h.d)
theorem RBit.mul {x y : Rat} {k m : Nat} (h : RBit x k) (g : RBit y m) : RBit (x * y) (k + m) := by
  rw [← rat_mul]
  exact divInt_bit (Int.mul_pos (den_pos x) (den_pos y)) (h.n.mul g.n) (h.d.mul g.d)
theorem RBit.abs {x : Rat} {k : Nat} (h : RBit x k) : RBit x.abs k := by
  unfold Rat.abs
  split
  · exact h
  · exact ⟨by unfold Bit; rw [Rat.neg_num, Int.natAbs_neg]; exact h.n, by rw [Rat.neg_den]; exact h.d⟩
theorem rat_lt (x y : Rat) : decide (x.num * y.den < y.num * x.den) = decide (x < y) := decide_eq_decide.mpr (Rat.lt_iff x y).symm
end Pw

/-! ## PwFracB -/
namespace Pw
theorem gcd_step (a b : Int) : Int.gcd b (a % b) = Int.gcd a b := by
  rw [Int.gcd_comm b, Int.emod_def]
  simp
def sumR : List Rat → Rat
  | [] => 0
  | r :: rs => r + sumR rs
theorem sumR_app : ∀ xs ys : List Rat, sumR (xs ++ ys) = sumR xs + sumR ys
  | [], ys => by show sumR ys = 0 + sumR ys; rw [Rat.zero_add]
  | x :: xs, ys => by show x + sumR (xs ++ ys) = (x + sumR xs) + sumR ys; rw [sumR_app xs ys, Rat.add_assoc]
theorem sumR_snoc (xs : List Rat) (x : Rat) : sumR (xs ++ [x]) = sumR xs + x := by
  rw [sumR_app]
  show sumR xs + (x + 0) = _
  rw [Rat.add_zero]
theorem sumR_take {xs : List Rat} {i : Nat} {x : Rat} (h : xs[i]? = some x) : sumR (xs.take (i + 1)) = sumR (xs.take i) + x := by
  rw [List.take_add_one, h]
  exact sumR_snoc _ _
theorem bit0 {k : Nat} (hk : 1 ≤ k) : RBit 0 k := ⟨by unfold Bit; exact Nat.pow_pos (by decide), by
  unfold Bit
  show (1 : Int).natAbs < 2 ^ k
  exact Nat.one_lt_two_pow (by omega)⟩
theorem sumR_bit {k : Nat} : ∀ xs : List Rat, (∀ r ∈ xs, RBit r k) → RBit (sumR xs) (xs.length * (k + 1) + 1)
  | [], _ => bit0 (by omega)
  | x :: xs, h => by
    have h1 := h x List.mem_cons_self
    have h2 := sumR_bit xs fun r hr => h r (List.mem_cons_of_mem _ hr)
    refine (h1.add h2).mono ?_
    rw [List.length_cons, Nat.succ_mul]
    omega
theorem sumR_map_add {α : Type} (f g : α → Rat) : ∀ l : List α, sumR (l.map fun a => f a + g a) = sumR (l.map f) + sumR (l.map g)
  | [] => by show (0 : Rat) = 0 + 0; rw [Rat.zero_add]
  | a :: l => by
    show (f a + g a) + sumR (l.map fun a => f a + g a) = (f a + sumR (l.map f)) + (g a + sumR (l.map g))
    rw [sumR_map_add f g l]
    grind
theorem sumR_map_mul {α : Type} (c : Rat) (f : α → Rat) : ∀ l : List α, sumR (l.map fun a => c * f a) = c * sumR (l.map f)
  | [] => by show (0 : Rat) = c * 0; rw [Rat.mul_zero]
  | a :: l => by
    show c * f a + sumR (l.map fun a => c * f a) = c * (f a + sumR (l.map f))
    rw [sumR_map_mul c f l]
    grind
theorem sumR_le {α : Type} {f g : α → Rat} : ∀ l : List α, (∀ a ∈ l, f a ≤ g a) → sumR (l.map f) ≤ sumR (l.map g)
  | [], _ => Rat.le_refl
  | a :: l, h => by
    have h1 := h a List.mem_cons_self
    have h2 := sumR_le l fun x hx => h x (List.mem_cons_of_mem _ hx)
    show f a + sumR (l.map f) ≤ g a + sumR (l.map g)
    grind
theorem sumR_zero {α : Type} : ∀ l : List α, sumR (l.map fun _ => (0 : Rat)) = 0
  | [] => rfl
  | a :: l => by show 0 + sumR (l.map fun _ => (0 : Rat)) = 0; rw [sumR_zero l, Rat.zero_add]
theorem sumR_swap {α β : Type} (f : α → β → Rat) : ∀ (l : List α) (m : List β), sumR (l.map fun a => sumR (m.map (f a))) = sumR (m.map fun b => sumR (l.map fun a => f a b))
  | [], m => (sumR_zero m).symm
  | a :: l, m => by
    show sumR (m.map (f a)) + sumR (l.map fun a => sumR (m.map (f a))) = _
    rw [sumR_swap f l m, ← sumR_map_add]
    rfl
theorem sumR_congr {α : Type} {f g : α → Rat} {l : List α} (h : ∀ a ∈ l, f a = g a) : sumR (l.map f) = sumR (l.map g) := by rw [List.map_congr_left h]
end Pw

/-! ## PwFracC -/
namespace Pw
/-! ### fractions whose lower number divides L, not above V -/
theorem int_divInt (z : Int) : (z : Rat) = Rat.divInt z 1 := by
  have h := Rat.num_divInt_den (z : Rat)
  simp only [Rat.num_intCast, Rat.den_intCast] at h
  exact h.symm
theorem den_dvd_iff (r : Rat) (L : Nat) : r.den ∣ L ↔ ∃ z : Int, r * (L : Rat) = (z : Rat) := by
  have hr : Rat.divInt r.num r.den = r := Rat.num_divInt_den r
  have hd : (r.den : Int) ≠ 0 := by have := r.den_nz; omega
  have hL : ((L : Nat) : Rat) = Rat.divInt (L : Int) 1 := by
    exact int_divInt L
  have hz : ∀ z : Int, (z : Rat) = Rat.divInt z 1 := fun z => int_divInt z
  have key : ∀ z : Int, r * (L : Rat) = (z : Rat) ↔ r.num * (L : Int) = z * (r.den : Int) := fun z => by
    rw [hL, hz z]
    conv => lhs; lhs; rw [← hr]
    rw [Rat.divInt_mul_divInt, Rat.divInt_eq_divInt_iff (by rw [Int.mul_one]; exact hd) (by decide)]
    simp
  constructor
  · rintro ⟨m, rfl⟩
    refine ⟨r.num * m, (key _).mpr ?_⟩
    rw [Int.natCast_mul]
    simp only [Int.mul_assoc, Int.mul_comm, Int.mul_left_comm]
  · rintro ⟨z, h⟩
    have h := (key z).mp h
    have h1 : (r.den : Int) ∣ r.num * (L : Int) := ⟨z, by rw [h, Int.mul_comm]⟩
    have h2 : r.den ∣ r.num.natAbs * L := by
      have := Int.natAbs_dvd_natAbs.mpr h1
      rwa [Int.natAbs_mul, Int.natAbs_natCast, Int.natAbs_natCast] at this
    exact (Nat.Coprime.symm r.reduced).dvd_of_dvd_mul_left h2
structure FB (L V : Nat) (r : Rat) : Prop where
  d : r.den ∣ L
  n : r.num.natAbs ≤ V * r.den
theorem abs_le_iff (r : Rat) (V : Nat) : r.num.natAbs ≤ V * r.den ↔ -(V : Rat) ≤ r ∧ r ≤ (V : Rat) := by
  have h1 : r ≤ (V : Rat) ↔ r.num ≤ (V : Int) * r.den := by
    rw [Rat.le_iff]
    simp
  have h2 : -(V : Rat) ≤ r ↔ -((V : Int) * r.den) ≤ r.num := by
    rw [Rat.le_iff]
    simp [Int.neg_mul]
  rw [h1, h2]
  have e : (((V * r.den : Nat)) : Int) = (V : Int) * r.den := by simp
  rw [← e]
  omega
theorem FB.add {L V W : Nat} {r s : Rat} (h : FB L V r) (g : FB L W s) : FB L (V + W) (r + s) := by
  constructor
  · obtain ⟨z, hz⟩ := (den_dvd_iff r L).mp h.d
    obtain ⟨y, hy⟩ := (den_dvd_iff s L).mp g.d
    exact (den_dvd_iff _ L).mpr ⟨z + y, by rw [Rat.add_mul, hz, hy, Rat.intCast_add]⟩
  · have a := (abs_le_iff r V).mp h.n
    have b := (abs_le_iff s W).mp g.n
    refine (abs_le_iff _ _).mpr ?_
    rw [Rat.natCast_add]
    grind
theorem FB.neg {L V : Nat} {r : Rat} (h : FB L V r) : FB L V (-r) := ⟨by rw [Rat.neg_den]; exact h.d, by rw [Rat.neg_den, Rat.neg_num, Int.natAbs_neg]; exact h.n⟩
theorem FB.sub {L V W : Nat} {r s : Rat} (h : FB L V r) (g : FB L W s) : FB L (V + W) (r - s) := by
  rw [Rat.sub_eq_add_neg]
  exact h.add g.neg
theorem FB.abs {L V : Nat} {r : Rat} (h : FB L V r) : FB L V r.abs := by
  unfold Rat.abs
  split
  · exact h
  · exact h.neg
theorem FB.mul {L V M W : Nat} {r s : Rat} (h : FB L V r) (g : FB M W s) : FB (L * M) (V * W) (r * s) := by
  constructor
  · obtain ⟨z, hz⟩ := (den_dvd_iff r L).mp h.d
    obtain ⟨y, hy⟩ := (den_dvd_iff s M).mp g.d
    refine (den_dvd_iff _ _).mpr ⟨z * y, ?_⟩
    rw [Rat.intCast_mul, ← hz, ← hy, Rat.natCast_mul]
    grind
  · have a := h.n
    have b := g.n
    have e : (r * s) = Rat.divInt (r.num * s.num) (r.den * s.den) := (rat_mul r s).symm
    have hp : (0 : Int) < r.den * s.den := Int.mul_pos (den_pos r) (den_pos s)
    obtain ⟨h1, h2⟩ := divInt_num (r.num * s.num) (r.den * s.den) hp
    have g1 : ((Int.gcd (r.num * s.num) (r.den * s.den) : Nat) : Int) ∣ r.num * s.num := Int.gcd_dvd_left ..
    have g2 : ((Int.gcd (r.num * s.num) (r.den * s.den) : Nat) : Int) ∣ (r.den : Int) * s.den := Int.gcd_dvd_right ..
    have hg : 0 < Int.gcd (r.num * s.num) (r.den * s.den) := Nat.pos_of_ne_zero fun z => by rw [Int.gcd_eq_zero_iff] at z; omega
    rw [← e] at h1 h2
    generalize Int.gcd (r.num * s.num) (r.den * s.den) = G at *
    obtain ⟨x, hx⟩ := g1
    obtain ⟨y, hy⟩ := g2
    rw [hx, Int.mul_ediv_cancel_left _ (by omega)] at h1
    rw [hy, Int.mul_ediv_cancel_left _ (by omega)] at h2
    have hm : (r.num * s.num).natAbs ≤ (V * W) * ((r.den : Int) * s.den).natAbs := by
      rw [Int.natAbs_mul, Int.natAbs_mul, Int.natAbs_natCast, Int.natAbs_natCast]
      calc r.num.natAbs * s.num.natAbs ≤ (V * r.den) * (W * s.den) := Nat.mul_le_mul a b
        _ = V * W * (r.den * s.den) := by simp only [Nat.mul_assoc, Nat.mul_comm, Nat.mul_left_comm]
    rw [hx, hy, Int.natAbs_mul, Int.natAbs_mul, Int.natAbs_natCast] at hm
    rw [h1, ← Int.natAbs_natCast (r * s).den, h2]
    have : G * x.natAbs ≤ G * (V * W * y.natAbs) := by
      rw [Nat.mul_left_comm G] 
      exact hm
    exact Nat.le_of_mul_le_mul_left this hg
theorem FB.mono {L M V W : Nat} {r : Rat} (h : FB L V r) (hL : L ∣ M) (hV : V ≤ W) : FB M W r := ⟨Nat.dvd_trans h.d hL, Nat.le_trans h.n (Nat.mul_le_mul_right _ hV)⟩
theorem FB.int {w : Nat} : FB 1 w (w : Rat) := ⟨by simp, by simp⟩
theorem FB.zero {L : Nat} : FB L 0 0 := ⟨⟨L, by simp⟩, by simp⟩
theorem FB.one {L : Nat} : FB L 1 1 := ⟨⟨L, by simp⟩, by simp⟩
theorem FB.sum {L V : Nat} : ∀ xs : List Rat, (∀ r ∈ xs, FB L V r) → FB L (xs.length * V) (sumR xs)
  | [], _ => by rw [List.length_nil, Nat.zero_mul]; exact FB.zero
  | x :: xs, h => by
    have := (h x List.mem_cons_self).add (FB.sum xs fun r hr => h r (List.mem_cons_of_mem _ hr))
    rw [List.length_cons, Nat.succ_mul, Nat.add_comm]
    exact this
/-- its size in signs -/
theorem FB.bit {L V k : Nat} {r : Rat} (h : FB L V r) (h0 : 0 < L) (hk : (V + 1) * L < 2 ^ k) : RBit r k := by
  have hd : r.den ≤ L := Nat.le_of_dvd h0 h.d
  have : V * r.den ≤ V * L := Nat.mul_le_mul_left _ hd
  rw [Nat.succ_mul] at hk
  constructor
  · unfold Bit
    have := h.n
    omega
  · unfold Bit
    rw [Int.natAbs_natCast]
    omega
end Pw

/-! ## PwFrac -/
namespace Pw
open PySem L2 Evl
def ratD (r : Rat) : PyData := .tuple [.int r.num, .int (r.den : Int)]
theorem mulW {i j : Int} {k m : Nat} (h : Bit i k) (g : Bit j m) (hk : k + m < 1000000) : CMulW i j := by
  have h1 := h.log
  have h2 := g.log
  unfold CMulW
  omega
theorem divW {j : Int} (h0 : 0 < j) (h : Bit j 8000) : CDivW 0 j := ⟨h0, Nat.lt_of_le_of_lt h.log (by decide)⟩
theorem divW' {i j : Int} (h0 : 0 < j) (h : Bit j 8000) : CDivW i j := ⟨h0, Nat.lt_of_le_of_lt h.log (by decide)⟩
theorem gcd_bit {a b : Int} {k : Nat} (hb : 0 < b) (h : Bit b k) : Bit (Int.gcd a b : Int) k := by
  unfold Bit at *
  have : Int.gcd a b ≤ b.natAbs := Nat.le_of_dvd (by omega) (Int.gcd_dvd_natAbs_right a b)
  omega
theorem gcd_pos {a b : Int} (hb : 0 < b) : (0 : Int) < (Int.gcd a b : Int) := by
  have : 0 < Int.gcd a b := Nat.pos_of_ne_zero fun z => by rw [Int.gcd_eq_zero_iff] at z; omega
  omega
theorem ratD_divInt {a b : Int} (hb : 0 < b) : ratD (Rat.divInt a b) = .tuple [.int (a / (Int.gcd a b : Int)), .int (b / (Int.gcd a b : Int))] := by
  obtain ⟨h1, h2⟩ := divInt_num a b hb
  unfold ratD
  rw [h1, h2]
theorem ratD_inj {r s : Rat} (h : ratD r = ratD s) : r = s := by
  unfold ratD at h
  simp only [PyData.tuple.injEq, List.cons.injEq, PyData.int.injEq, and_true] at h
  exact Rat.ext h.1 (by omega)
theorem ratD_abs (r : Rat) : ratD r.abs = .tuple [.int (if r.num < 0 then -r.num else r.num), .int (r.den : Int)] := by
  unfold ratD Rat.abs
  have e : 0 ≤ r ↔ 0 ≤ r.num := (Rat.num_nonneg).symm
  by_cases h : 0 ≤ r.num
  · rw [if_pos (e.mpr h), if_neg (by omega)]
  · rw [if_neg (fun z => h (e.mp z)), if_pos (by omega), Rat.neg_num, Rat.neg_den]
theorem eqv_rat (r s : Rat) : PyData.eqv (ratD r) (ratD s) = decide (r = s) := by
  simp only [ratD, PyData.eqv, PyData.eqvAll]
  rw [Bool.eq_iff_iff, decide_eq_true_iff]
  constructor
  · intro h
    simp at h
    exact Rat.ext h.1 (by omega)
  · rintro rfl
    simp
theorem shp_rat (r : Rat) : Shp 1 (ratD r) := shp_tup fun x hx => by
  simp only [List.mem_cons, List.not_mem_nil, or_false] at hx
  rcases hx with rfl | rfl <;> exact shp_int
end Pw

/-! ## PwFracD -/
namespace Pw
theorem divInt_mul_self (a : Int) {b : Int} (hb : b ≠ 0) : Rat.divInt a b * (b : Rat) = (a : Rat) := by
  rw [int_divInt b, int_divInt a, Rat.divInt_mul_divInt, Int.mul_one, Rat.divInt_eq_divInt_iff hb (by decide), Int.mul_one]
theorem int_pos {b : Int} (hb : 0 < b) : (0 : Rat) < (b : Rat) := by
  have : ((0 : Int) : Rat) < (b : Rat) := Rat.intCast_lt_intCast.mpr hb
  exact this
theorem rat_cancel {x y c : Rat} (hc : 0 < c) (h : x * c = y * c) : x = y := by
  have h0 : c ≠ 0 := fun z => by rw [z] at hc; exact absurd hc (by decide)
  have := congrArg (· * c⁻¹) h
  simp only [Rat.mul_assoc, Rat.mul_inv_cancel c h0, Rat.mul_one] at this
  exact this
theorem rat_le_cancel {x y c : Rat} (hc : 0 < c) (h : x * c ≤ y * c) : x ≤ y := Rat.not_lt.mp fun z => by
  have := Rat.mul_lt_mul_of_pos_right z hc
  grind
theorem divInt_nonneg' {a b : Int} (ha : 0 ≤ a) (hb : 0 < b) : 0 ≤ Rat.divInt a b := Rat.divInt_nonneg ha (by omega)
theorem divInt_FB {a : Int} {s : Nat} {V : Nat} (hs : 0 < s) (ha : a.natAbs ≤ V * s) : FB s V (Rat.divInt a s) := by
  have hs' : ((s : Nat) : Int) ≠ 0 := by omega
  have key := divInt_mul_self a hs'
  have hp : (0 : Rat) < ((s : Int) : Rat) := int_pos (by omega)
  constructor
  · exact (den_dvd_iff _ s).mpr ⟨a, key⟩
  · refine (abs_le_iff _ V).mpr ⟨rat_le_cancel hp ?_, rat_le_cancel hp ?_⟩
    · rw [key]
      have : ((-(V * s : Nat) : Int) : Rat) ≤ (a : Rat) := Rat.intCast_le_intCast.mpr (by omega)
      refine Rat.le_trans ?_ this
      have e : (((V * s : Nat) : Int) : Rat) = (V : Rat) * ((s : Int) : Rat) := by
        rw [Rat.intCast_natCast, Rat.natCast_mul]
        rfl
      rw [Rat.intCast_neg, e, Rat.neg_mul]
      exact Rat.le_refl
    · rw [key]
      have : (a : Rat) ≤ (((V * s : Nat) : Int) : Rat) := Rat.intCast_le_intCast.mpr (by omega)
      refine Rat.le_trans this ?_
      have e : (((V * s : Nat) : Int) : Rat) = (V : Rat) * ((s : Int) : Rat) := by
        rw [Rat.intCast_natCast, Rat.natCast_mul]
        rfl
      rw [e]
      exact Rat.le_refl
theorem sum_divInt {s : Int} (hs : 0 < s) : ∀ xs : List Int, sumR (xs.map fun x => Rat.divInt x s) * (s : Rat) = ((xs.sum : Int) : Rat)
  | [] => by show (0 : Rat) * _ = ((0 : Int) : Rat); rw [Rat.zero_mul]; rfl
  | x :: xs => by
    have ih := sum_divInt hs xs
    show (Rat.divInt x s + sumR (xs.map fun x => Rat.divInt x s)) * (s : Rat) = _
    rw [Rat.add_mul, ih, divInt_mul_self x (by omega), List.sum_cons, Rat.intCast_add]
/-- how much each has of a place -/
def RowOk (k : Nat) (rs : List Rat) : Prop := rs.length = k ∧ (∀ r ∈ rs, 0 ≤ r) ∧ sumR rs = 1 ∧ ∃ s : Nat, 0 < s ∧ s ≤ 60000 ∧ ∀ r ∈ rs, FB s 1 r
theorem row_ok {k : Nat} {xs : List Int} (hl : xs.length = k) (h0 : ∀ x ∈ xs, 0 ≤ x) (hs : 0 < xs.sum) (hm : xs.sum ≤ 60000) : RowOk k (xs.map fun x => Rat.divInt x xs.sum) := by
  refine ⟨by rw [List.length_map]; exact hl, fun r hr => ?_, ?_, xs.sum.toNat, by omega, by omega, fun r hr => ?_⟩
  · obtain ⟨x, hx, rfl⟩ := List.mem_map.mp hr
    exact divInt_nonneg' (h0 x hx) hs
  · refine rat_cancel (int_pos hs) ?_
    rw [sum_divInt hs, Rat.one_mul]
  · obtain ⟨x, hx, rfl⟩ := List.mem_map.mp hr
    have e : xs.sum = ((xs.sum.toNat : Nat) : Int) := by omega
    have hle : x ≤ xs.sum := by
      clear e hs hm hl hr
      induction xs with
      | nil => cases hx
      | cons y ys ih =>
        have hy := h0 y List.mem_cons_self
        have hn : 0 ≤ ys.sum := by
          have : ∀ zs : List Int, (∀ z ∈ zs, 0 ≤ z) → 0 ≤ zs.sum := fun zs => by
            induction zs with
            | nil => intro _; exact Int.le_refl _
            | cons z zs ih =>
              intro h
              have a := h z List.mem_cons_self
              have b := ih fun w hw => h w (List.mem_cons_of_mem _ hw)
              rw [List.sum_cons]
              omega
          exact this ys fun z hz => h0 z (List.mem_cons_of_mem _ hz)
        rw [List.sum_cons]
        rcases List.mem_cons.mp hx with rfl | hx
        · omega
        · have := ih (fun z hz => h0 z (List.mem_cons_of_mem _ hz)) hx
          omega
    have := h0 x hx
    rw [e]
    exact divInt_FB (by omega) (by omega)
/-- one number that all lower ones divide -/
theorem rows_FB : ∀ (rows : List (List Rat)), (∀ row ∈ rows, ∃ s : Nat, 0 < s ∧ s ≤ 60000 ∧ ∀ r ∈ row, FB s 1 r) → ∃ L, 0 < L ∧ L ≤ 60000 ^ rows.length ∧ ∀ row ∈ rows, ∀ r ∈ row, FB L 1 r
  | [], _ => ⟨1, by decide, by simp, fun row h => by cases h⟩
  | row :: rows, h => by
    obtain ⟨L, h1, h2, h3⟩ := rows_FB rows fun r hr => h r (List.mem_cons_of_mem _ hr)
    obtain ⟨s, g1, g2, g3⟩ := h row List.mem_cons_self
    refine ⟨s * L, Nat.mul_pos g1 h1, ?_, fun r hr => ?_⟩
    · rw [List.length_cons, Nat.pow_succ, Nat.mul_comm]
      exact Nat.mul_le_mul h2 g2
    · rcases List.mem_cons.mp hr with rfl | hr
      · exact fun x hx => (g3 x hx).mono (Nat.dvd_mul_right _ _) (Nat.le_refl _)
      · exact fun x hx => (h3 r hr x hx).mono (Nat.dvd_mul_left _ _) (Nat.le_refl _)
end Pw

/-! ## PwFracL -/
namespace Pw
open PySem L2 Evl
theorem rng_nat {α : Type} (f : Nat → α) (k : Nat) : (rngI 0 k).map (fun i => f i.toNat) = (List.range k).map f := by
  unfold rngI
  rw [List.map_map]
  refine List.map_congr_left fun j _ => ?_
  show f ((0 : Int) + (j : Int)).toNat = f j
  rw [Int.zero_add, Int.toNat_natCast]
/-! ### shares -/
def rowD (t : Bool) (r : List Rat) : PyData := seqD t (r.map ratD)
def shD (t : Bool) (rows : List (List Rat)) : PyData := seqD t (rows.map (rowD t))
def shA (rows : List (List Rat)) (p : Int) (l : Nat) : Rat := (rows.getD p.toNat []).getD l 0
def unitRow (k l : Nat) : List Rat := (List.range k).map fun i => if i = l then 1 else 0
structure SharesOk (n : Int) (ps : List Int) (rows : List (List Rat)) : Prop where
  len : rows.length = n.toNat
  row : ∀ row ∈ rows, RowOk ps.length row
  own : ∀ (l : Nat) p, ps[l]? = some p → rows[p.toNat]? = some (unitRow ps.length l)
/-- what the sums of shares ask -/
structure ShPre (n : Int) (ts : List Tie) (rows : List (List Rat)) (k : Nat) : Prop where
  tin : TiesIn n ts
  tl : ts.length ≤ 100
  tw : ∀ t ∈ ts, 0 ≤ t.2.2 ∧ t.2.2 ≤ 1000000000
  n60 : n ≤ 60
  rl : rows.length = n.toNat
  row : ∀ row ∈ rows, row.length = k
  k6 : k ≤ 10
  fb : ∃ L, 0 < L ∧ L ≤ 60000 ^ 60 ∧ ∀ row ∈ rows, ∀ r ∈ row, FB L 1 r
theorem SharesOk.pre {n : Int} {ts : List Tie} {ps : List Int} {rows : List (List Rat)} (h : SharesOk n ps rows) (hW : WebOk n ts) (hl : ∀ t ∈ ts, t.2.2 ≤ 1000000000) (hn : n ≤ 30) (hp : ps.length ≤ 6) : ShPre n ts rows ps.length := by
  refine ⟨hW.ins, hW.len, fun t ht => ⟨by have := hW.tie t ht; omega, hl t ht⟩, by omega, h.len, fun r hr => (h.row r hr).1, by omega, ?_⟩
  obtain ⟨L, h1, h2, h3⟩ := rows_FB rows fun r hr => (h.row r hr).2.2.2
  refine ⟨L, h1, Nat.le_trans h2 (Nat.pow_le_pow_right (by decide) ?_), h3⟩
  rw [h.len]
  omega
section
variable {K : PySem.W.Frag} {Γ : En0} {te ti tl ta : TE} {t : Bool} {rows : List (List Rat)} {n : Int} {ts : List Tie} {k : Nat}
theorem sh_row (hl : rows.length = n.toNat) {p : Int} (h0 : 0 ≤ p) (h1 : p < n) : ∃ row, row ∈ rows ∧ rows[p.toNat]? = some row ∧ rows.getD p.toNat [] = row := by
  have hp : p.toNat < rows.length := by omega
  refine ⟨rows[p.toNat], List.getElem_mem _, List.getElem?_eq_getElem hp, ?_⟩
  rw [List.getD_eq_getElem?_getD, List.getElem?_eq_getElem hp]
  rfl
theorem sh_in (hl : rows.length = n.toNat) (hr : ∀ row ∈ rows, row.length = k) {p : Int} (h0 : 0 ≤ p) (h1 : p < n) {l : Nat} (h2 : l < k) : ∃ row ∈ rows, shA rows p l ∈ row := by
  obtain ⟨row, m, g1, g2⟩ := sh_row hl h0 h1
  refine ⟨row, m, ?_⟩
  unfold shA
  have := hr row m
  rw [g2, List.getD_eq_getElem?_getD, List.getElem?_eq_getElem (show l < row.length by omega)]
  exact List.getElem_mem _
/-- one's share at a place -/
theorem n_sh {p : Int} {l : Nat} (hl : rows.length = n.toNat) (hr : ∀ row ∈ rows, row.length = k) (h0 : 0 ≤ p) (h1 : p < n) (h2 : l < k) (ha : EE K te Γ (shD t rows)) (hi : EE K ti Γ (.int p)) (hj : EE K tl Γ (.int (l : Int))) : EE K (tOp (rIx K) (tOp (rIx K) te ti) tl) Γ (ratD (shA rows p l)) := by
  obtain ⟨row, m, g1, g2⟩ := sh_row hl h0 h1
  have hlr := hr row m
  refine n_ix (t := t) (ds := row.map ratD) (n_ix (t := t) (ds := rows.map (rowD t)) (d := rowD t row) ha hi (atI_at h0 (by rw [List.getElem?_map, g1]; rfl))) hj (atI_at (by omega) ?_)
  unfold shA
  rw [g2, List.getElem?_map, show ((l : Int)).toNat = l from rfl, List.getD_eq_getElem?_getD, List.getElem?_eq_getElem (show l < row.length by omega)]
  rfl
/-- a row -/
theorem n_row {p : Int} (hl : rows.length = n.toNat) (h0 : 0 ≤ p) (h1 : p < n) (ha : EE K te Γ (shD t rows)) (hi : EE K ti Γ (.int p)) : EE K (tOp (rIx K) te ti) Γ (rowD t (rows.getD p.toNat [])) := by
  obtain ⟨row, m, g1, g2⟩ := sh_row hl h0 h1
  exact n_ix (t := t) (ds := rows.map (rowD t)) ha hi (atI_at h0 (by rw [List.getElem?_map, g1, g2]; rfl))
end
/-- what a tie costs by one post's shares -/
def tieC (rows : List (List Rat)) (l : Nat) (t : Tie) : Rat := ((t.2.2 : Int) : Rat) * (shA rows t.1 l - shA rows t.2.1 l).abs
def costA (ts : List Tie) (rows : List (List Rat)) (l : Nat) : Rat := sumR (ts.map (tieC rows l))
def costAll (ts : List Tie) (rows : List (List Rat)) (k : Nat) : Rat := sumR ((List.range k).map (costA ts rows))
def half (r : Rat) : Rat := Rat.divInt r.num (r.den * 2)
theorem half_eq (r : Rat) : half r = r / 2 := by
  unfold half
  have h : Rat.divInt r.num (r.den * 2) * 2 = r := by
    have e2 : (2 : Rat) = Rat.divInt 2 1 := int_divInt 2
    conv => rhs; rw [← Rat.num_divInt_den r]
    have hd := den_pos r
    rw [e2, Rat.divInt_mul_divInt, Rat.divInt_eq_divInt_iff (by omega) (by omega)]
    simp only [Int.mul_one]
    rw [Int.mul_assoc, Int.mul_comm 2]
  grind
section
variable {n : Int} {ts : List Tie} {rows : List (List Rat)} {k : Nat} (h : ShPre n ts rows k)
include h
theorem ShPre.sub {t : Tie} (ht : t ∈ ts) {l : Nat} (hl : l < k) : ∃ L, 0 < L ∧ L ≤ 60000 ^ 60 ∧ FB L 1 (shA rows t.1 l) ∧ FB L 1 (shA rows t.2.1 l) := by
  obtain ⟨L, h1, h2, h3⟩ := h.fb
  have hi := h.tin t ht
  obtain ⟨r1, m1, g1⟩ := sh_in h.rl h.row (p := t.1) (by omega) (by omega) hl
  obtain ⟨r2, m2, g2⟩ := sh_in h.rl h.row (p := t.2.1) (by omega) (by omega) hl
  exact ⟨L, h1, h2, h3 r1 m1 _ g1, h3 r2 m2 _ g2⟩
theorem ShPre.tieFB : ∃ L, 0 < L ∧ L ≤ 60000 ^ 60 ∧ ∀ t ∈ ts, ∀ l, l < k → FB L 2000000000 (tieC rows l t) := by
  obtain ⟨L, h1, h2, h3⟩ := h.fb
  refine ⟨L, h1, h2, fun t ht l hl => ?_⟩
  have hi := h.tin t ht
  obtain ⟨r1, m1, g1⟩ := sh_in h.rl h.row (p := t.1) (by omega) (by omega) hl
  obtain ⟨r2, m2, g2⟩ := sh_in h.rl h.row (p := t.2.1) (by omega) (by omega) hl
  have a := ((h3 r1 m1 _ g1).sub (h3 r2 m2 _ g2)).abs
  obtain ⟨w, hw⟩ : ∃ w : Nat, t.2.2 = (w : Int) := ⟨t.2.2.toNat, by have := h.tw t ht; omega⟩
  have b : FB 1 w ((t.2.2 : Int) : Rat) := by rw [hw]; exact FB.int
  have c := b.mul a
  have := h.tw t ht
  exact c.mono (by rw [Nat.one_mul]; exact Nat.dvd_refl _) (by omega)
theorem ShPre.costFB : ∃ L, 0 < L ∧ L ≤ 60000 ^ 60 ∧ ∀ l, l < k → FB L 200000000000 (costA ts rows l) := by
  obtain ⟨L, h1, h2, h3⟩ := h.tieFB
  refine ⟨L, h1, h2, fun l hl => ?_⟩
  have := FB.sum (ts.map (tieC rows l)) fun r hr => by
    obtain ⟨t, ht, rfl⟩ := List.mem_map.mp hr
    exact h3 t ht l hl
  refine this.mono (Nat.dvd_refl _) ?_
  rw [List.length_map]
  have := h.tl
  omega
theorem ShPre.allFB : ∃ L, 0 < L ∧ L ≤ 60000 ^ 60 ∧ FB L 2000000000000 (costAll ts rows k) := by
  obtain ⟨L, h1, h2, h3⟩ := h.costFB
  refine ⟨L, h1, h2, ?_⟩
  have := FB.sum ((List.range k).map (costA ts rows)) fun r hr => by
    obtain ⟨l, hl, rfl⟩ := List.mem_map.mp hr
    exact h3 l (List.mem_range.mp hl)
  refine this.mono (Nat.dvd_refl _) ?_
  rw [List.length_map, List.length_range]
  have := h.k6
  omega
end
theorem fb_bit {L V : Nat} {r : Rat} (h : FB L V r) (h0 : 0 < L) (hL : L ≤ 60000 ^ 60) (hV : V ≤ 10 ^ 20) : RBit r 2000 := by
  refine h.bit h0 (Nat.lt_of_le_of_lt (Nat.mul_le_mul (Nat.succ_le_succ hV) hL) ?_)
  decide
theorem fb_lt {L V m : Nat} (hL : L ≤ 60000 ^ 60) (hV : V ≤ 10 ^ 20) (hm : m ≤ 1000) : ((m + 1) * V + 1) * L < 2 ^ 4000 := by
  have h1 : (m + 1) * V + 1 ≤ 1001 * 10 ^ 20 + 1 := Nat.succ_le_succ (Nat.mul_le_mul (by omega) hV)
  exact Nat.lt_of_le_of_lt (Nat.mul_le_mul h1 hL) (by decide)
end Pw

/-! ## PwCls -/
namespace Pw
open PySem L2 Evl

/-! ### classes of the text: methods, what makes an object; attributes, calls of methods -/
structure Mfn (K : PySem.W.Frag) (C : Addr) (x q : Str) (st : Stmt) (ps : List Str) (f : Addr) (fd : FuncData) : Prop where
  F : Fun K x q st f fd
  m : Meth K C x f
  b : Binds K fd ps []
structure Ifn (K : PySem.W.Frag) (C : Addr) (x q : Str) (st : Stmt) (ps : List Str) (f : Addr) (fd : FuncData) : Prop where
  F : Fun K x q st f fd
  k : Mk K C f
  b : Binds K fd ps []
theorem pe_fldK {X : Cx} {e : Expr} {ta : TE} {f : Str} {pos : Pos} (K : PySem.W.Frag) (hK : X.K = K) (he : PE X e ta) (hb : attributeBase e f X.env (eval e X.env) = eval e X.env) : PE X (.Attribute e f pos) (tFld K ta f) := hK ▸ pe_fld he hb
/-- xs[i], by values, i not below 0 -/
def rGetL (K : PySem.W.Frag) : V → V → Hp → VK → Prop := fun x y H Q => ∃ (p : Addr) (xs : List V) (i : Nat) (v : V), x = .ref p ∧ y = .int (i : Int) ∧ SqL K H p xs ∧ xs[i]? = some v ∧ Q v H
theorem get_list {X : Cx} : PGet X (rGetL X.K) := fun pins s σ H o i ov iv Q I ro ri h => by
  obtain ⟨p, xs, j, v, rfl, rfl, hq, hv, q⟩ := h
  cases ro
  obtain ⟨t, rfl⟩ := ri
  obtain ⟨its, r, pl, hz⟩ := I.list hq
  obtain ⟨u, eu, ru⟩ := r.get hv
  have hl := r.length
  have hj := (List.getElem?_eq_some_iff.mp hv).1
  have hn := line63
  exact PySem.wpAny_getItem_list pl.isList (by omega) (by omega) (by simpa using eu) ⟨v, H, I, ru, q⟩
section
variable {K : PySem.W.Frag} {σ : L2.St} {B H : Hp} {S : List Addr} {ta te : TE} {tA : TA} {f : Str} {p C dx : Addr} {fs : List (Str × V)} {v : V}
theorem ev_fld (ho : EvV ta σ B (.ref p)) (hp : B p = some (.ins C dx fs)) (c : Cls K C) (n : NoAttr K C f) (l : fs.lookup f = some v) : EvV (tFld K ta f) σ B v :=
  evR_of (fun S H w Q q => ho.bind w fun x B1 H1 e1 eB1 w1 ex => ⟨p, C, dx, fs, v, ex, w1.ex _ _ (eB1 _ _ hp), c, n, l, q v B1 H1 e1 eB1 w1 rfl⟩) stays_eq
theorem EvV.d {d : PyData} (h : EvV te σ B v) (hd : Dq K B v d) : EvD K te σ B d :=
  evR_of (fun S H w Q q => h.bind w fun x B1 H1 e1 eB1 w1 ex => by
    subst ex
    exact q _ B1 H1 e1 eB1 w1 (Dq.mono eB1 hd)) stays_dp
/-- a call of a method that changes nothing -/
theorem ev_meth {m : Str} {sp : Sp} {ds : List PyData} {R : V → Hp → Prop} (ho : EvV ta σ B (.ref p)) (hp : B p = some (.ins C dx fs)) (l : fs.lookup m = none) (ha : EvAD K tA σ B ds) (st : Stays R)
    (hsp : ∀ S B' H' vs Q, Ex B B' → Wd S B' H' → DqAll K B' vs ds → (∀ v B2 H2, Ex H' H2 → Ex B' B2 → Wd S B2 H2 → R v B2 → Q v H2) → sp (.ref p :: (vs ++ [])) H' Q E0) : EvR (tMeth C m sp [] E0 ta tA) σ B R :=
  evR_of (fun S H w Q q => ho.bind w fun x B1 H1 e1 eB1 w1 ex => ⟨p, dx, fs, ex, w1.ex _ _ (eB1 _ _ hp), l, (ha.mono eB1).bind w1 fun vs B2 H2 e2 eB2 w2 rs => by
    rw [ex]
    exact hsp S B2 H2 vs Q (eB1.trans eB2) w2 rs fun v B3 H3 e3 eB3 w3 r => q v B3 H3 (e1.trans (e2.trans e3)) (eB1.trans (eB2.trans eB3)) w3 r⟩) st
end
end Pw

/-! ## PwFlow -/
namespace Pw
open PySem L2 Evl

/-! ### flows: what is brought along the ties (nothing of the program here) -/
def tieAt (ts : List Tie) (i : Nat) : Tie := ts.getD i (0, 0, 0)
def roomF (ts : List Tie) (am : List Int) (i : Nat) (p : Int) : Int := if p = (tieAt ts i).1 then (tieAt ts i).2.2 - am.getD i 0 else (tieAt ts i).2.2 + am.getD i 0
def Link (ts : List Tie) (i : Nat) (p q : Int) : Prop := ∃ t, ts[i]? = some t ∧ (t.1 = p ∧ t.2.1 = q ∨ t.1 = q ∧ t.2.1 = p)
def Res (ts : List Tie) (am : List Int) (p q : Int) : Prop := ∃ i, Link ts i p q ∧ 0 < roomF ts am i p
def nbN (ts : List Tie) (p : Int) : List (Nat × Int) := ts.zipIdx.flatMap fun x => (if x.1.1 = p then [(x.2, x.1.2.1)] else []) ++ (if x.1.2.1 = p then [(x.2, x.1.1)] else [])
theorem tieAt_of {ts : List Tie} {i : Nat} {t : Tie} (h : ts[i]? = some t) : tieAt ts i = t := by
  unfold tieAt
  rw [List.getD_eq_getElem?_getD, h]
  rfl
theorem nbN_mem {ts : List Tie} {p q : Int} {i : Nat} : (i, q) ∈ nbN ts p ↔ Link ts i p q := by
  unfold nbN Link
  rw [List.mem_flatMap]
  constructor
  · rintro ⟨⟨t, j⟩, hx, h⟩
    have ht := List.mk_mem_zipIdx_iff_getElem?.mp hx
    rcases List.mem_append.mp h with h | h
    · split at h
      · rename_i e
        have h := List.mem_singleton.mp h
        simp only [Prod.mk.injEq] at h
        obtain ⟨rfl, rfl⟩ := h
        exact ⟨t, ht, .inl ⟨e, rfl⟩⟩
      · cases h
    · split at h
      · rename_i e
        have h := List.mem_singleton.mp h
        simp only [Prod.mk.injEq] at h
        obtain ⟨rfl, rfl⟩ := h
        exact ⟨t, ht, .inr ⟨rfl, e⟩⟩
      · cases h
  · rintro ⟨t, ht, h⟩
    refine ⟨(t, i), List.mk_mem_zipIdx_iff_getElem?.mpr ht, List.mem_append.mpr ?_⟩
    rcases h with ⟨h1, h2⟩ | ⟨h1, h2⟩
    · refine .inl ?_
      rw [if_pos h1, h2]
      exact List.mem_singleton.mpr rfl
    · refine .inr ?_
      rw [if_pos h2, h1]
      exact List.mem_singleton.mpr rfl
theorem Link.flip {ts : List Tie} {i : Nat} {p q : Int} (h : Link ts i p q) : Link ts i q p := by
  obtain ⟨t, h1, h2⟩ := h
  exact ⟨t, h1, h2.symm⟩
theorem Link.rng {n : Int} {ts : List Tie} (hin : TiesIn n ts) {i : Nat} {p q : Int} (h : Link ts i p q) : (0 ≤ p ∧ p < n) ∧ (0 ≤ q ∧ q < n) ∧ p ≠ q ∧ i < ts.length := by
  obtain ⟨t, h1, h2⟩ := h
  have h3 := hin t (List.mem_of_getElem? h1)
  have h4 := (List.getElem?_eq_some_iff.mp h1).1
  omega

/-! #### where one comes from where -/
abbrev Came := List (Int × Option (Nat × Int))
def keysC (c : Came) : List Int := c.map (·.1)
def grow (ts : List Tie) (am : List Int) (here : Int) (c : Came) (e : Nat × Int) : Came := if (!decide (e.2 ∈ keysC c) && decide (roomF ts am e.1 here > 0)) = true then c ++ [(e.2, some (e.1, here))] else c
def bfs (ts : List Tie) (am : List Int) : Nat → Came → Nat → Came
  | 0, c, _ => c
  | k + 1, c, at' => match c[at']? with
    | none => c
    | some x => bfs ts am k ((nbN ts x.1).foldl (grow ts am x.1) c) (at' + 1)
structure CameOk (n : Int) (ts : List Tie) (am src : List Int) (c : Came) : Prop where
  nd : (keysC c).Nodup
  rng : ∀ k ∈ keysC c, 0 ≤ k ∧ k < n
  beg : ∀ s ∈ src, (s, none) ∈ c
  non : ∀ e ∈ c, e.2 = none → e.1 ∈ src
  ent : ∀ (j : Nat) q i h, c[j]? = some (q, some (i, h)) → ∃ j' o, j' < j ∧ c[j']? = some (h, o) ∧ Link ts i h q ∧ 0 < roomF ts am i h
theorem CameOk.few {n : Int} {ts : List Tie} {am src : List Int} {c : Came} (h : CameOk n ts am src c) : c.length ≤ n.toNat := by
  have := few_in (n := n.toNat) h.nd fun k hk => by
    have := h.rng k hk
    omega
  unfold keysC at this
  rw [List.length_map] at this
  exact this
theorem CameOk.begin {n : Int} {ts : List Tie} {am src : List Int} (hn : src.Nodup) (hr : ∀ s ∈ src, 0 ≤ s ∧ s < n) : CameOk n ts am src (src.map fun s => (s, none)) := by
  have e : keysC (src.map fun s => ((s, none) : Int × Option (Nat × Int))) = src := by
    unfold keysC
    rw [List.map_map]
    exact List.map_id src
  refine ⟨by rw [e]; exact hn, by rw [e]; exact hr, fun s hs => List.mem_map.mpr ⟨s, hs, rfl⟩, fun x hx _ => ?_, fun j q i h e => ?_⟩
  · obtain ⟨s, hs, rfl⟩ := List.mem_map.mp hx
    exact hs
  · rw [List.getElem?_map] at e
    obtain ⟨s, _, z⟩ := Option.map_eq_some_iff.mp e
    cases z
theorem CameOk.grow {n : Int} {ts : List Tie} {am src : List Int} {c : Came} (hin : TiesIn n ts) (h : CameOk n ts am src c) {at' : Nat} {here : Int} {o : Option (Nat × Int)} (ha : c[at']? = some (here, o)) {e : Nat × Int} (he : e ∈ nbN ts here) :
    CameOk n ts am src (Pw.grow ts am here c e) ∧ c <+: Pw.grow ts am here c e ∧ (0 < roomF ts am e.1 here → e.2 ∈ keysC (Pw.grow ts am here c e)) := by
  obtain ⟨i, q⟩ := e
  have hl := nbN_mem.mp he
  unfold Pw.grow
  by_cases c1 : q ∈ keysC c
  · rw [if_neg (by rw [decide_eq_true c1]; simp)]
    exact ⟨h, List.prefix_refl _, fun _ => c1⟩
  · by_cases c2 : roomF ts am i here > 0
    · rw [if_pos (by rw [decide_eq_false c1, decide_eq_true c2]; rfl)]
      have hk : keysC (c ++ [(q, some (i, here))]) = keysC c ++ [q] := by unfold keysC; rw [List.map_append]; rfl
      refine ⟨⟨?_, fun k hk' => ?_, fun s hs => List.mem_append_left _ (h.beg s hs), fun x hx hn => ?_, fun j q' i' h' e => ?_⟩, List.prefix_append _ _, fun _ => by rw [hk]; exact List.mem_append_right _ (List.mem_singleton.mpr rfl)⟩
      · rw [hk, List.nodup_append]
        exact ⟨h.nd, by simp, fun a ha b hb z => c1 (by rw [← List.mem_singleton.mp hb, ← z]; exact ha)⟩
      · rw [hk] at hk'
        rcases List.mem_append.mp hk' with hk' | hk'
        · exact h.rng k hk'
        · rw [List.mem_singleton.mp hk']
          exact (hl.rng hin).2.1
      · rcases List.mem_append.mp hx with hx | hx
        · exact h.non x hx hn
        · rw [List.mem_singleton.mp hx] at hn
          cases hn
      · by_cases hj : j < c.length
        · rw [List.getElem?_append_left hj] at e
          obtain ⟨j', o', h1, h2, h3⟩ := h.ent j q' i' h' e
          exact ⟨j', o', h1, by rw [List.getElem?_append_left (by omega)]; exact h2, h3⟩
        · have hjl := (List.getElem?_eq_some_iff.mp e).1
          rw [List.length_append] at hjl
          have hjl : j < c.length + 1 := hjl
          have ej : j = c.length := by omega
          subst ej
          rw [List.getElem?_append_right (Nat.le_refl _), Nat.sub_self] at e
          cases e
          have hal := (List.getElem?_eq_some_iff.mp ha).1
          exact ⟨at', o, hal, by rw [List.getElem?_append_left hal]; exact ha, hl, c2⟩
    · rw [if_neg (by rw [decide_eq_false c2]; simp)]
      exact ⟨h, List.prefix_refl _, fun z => absurd z c2⟩
theorem prefix_at {α : Type} {c d : List α} (h : c <+: d) {i : Nat} {x : α} (hx : c[i]? = some x) : d[i]? = some x := by
  obtain ⟨r, rfl⟩ := h
  rw [List.getElem?_append_left (List.getElem?_eq_some_iff.mp hx).1]
  exact hx
theorem prefix_keys {c d : Came} (h : c <+: d) {k : Int} (hk : k ∈ keysC c) : k ∈ keysC d := by
  obtain ⟨r, rfl⟩ := h
  unfold keysC
  rw [List.map_append]
  exact List.mem_append_left _ hk
theorem grows {n : Int} {ts : List Tie} {am src : List Int} (hin : TiesIn n ts) {at' : Nat} {here : Int} {o : Option (Nat × Int)} : ∀ {l : List (Nat × Int)} {c : Came}, (∀ e ∈ l, e ∈ nbN ts here) → CameOk n ts am src c → c[at']? = some (here, o) →
    CameOk n ts am src (l.foldl (grow ts am here) c) ∧ c <+: l.foldl (grow ts am here) c ∧ ∀ e ∈ l, 0 < roomF ts am e.1 here → e.2 ∈ keysC (l.foldl (grow ts am here) c)
  | [], c, _, h, _ => ⟨h, List.prefix_refl _, fun e he => by cases he⟩
  | x :: l, c, hl, h, ha => by
    obtain ⟨g1, g2, g3⟩ := h.grow hin ha (hl x List.mem_cons_self)
    obtain ⟨k1, k2, k3⟩ := grows hin (l := l) (c := grow ts am here c x) (fun e he => hl e (List.mem_cons_of_mem _ he)) g1 (prefix_at g2 ha)
    refine ⟨k1, g2.trans k2, fun e he hr => ?_⟩
    rcases List.mem_cons.mp he with rfl | he
    · exact prefix_keys k2 (g3 hr)
    · exact k3 e he hr
/-- all that can be reached from the first places is there -/
def ClosedTo (ts : List Tie) (am : List Int) (c : Came) (m : Nat) : Prop := ∀ (j : Nat) p o, j < m → c[j]? = some (p, o) → ∀ q, Res ts am p q → q ∈ keysC c
theorem bfs_spec {n : Int} {ts : List Tie} {am src : List Int} (hin : TiesIn n ts) : ∀ (k : Nat) (c : Came) (at' : Nat), CameOk n ts am src c → at' ≤ c.length → ClosedTo ts am c at' → n.toNat ≤ at' + k →
    CameOk n ts am src (bfs ts am k c at') ∧ ClosedTo ts am (bfs ts am k c at') (bfs ts am k c at').length
  | 0, c, at', h, hl, hc, hk => by
    have := h.few
    have e : at' = c.length := by omega
    refine ⟨h, ?_⟩
    show ClosedTo ts am c c.length
    rw [← e]
    exact hc
  | k + 1, c, at', h, hl, hc, hk => by
    unfold bfs
    cases e : c[at']? with
    | none =>
      have hle : c.length ≤ at' := List.getElem?_eq_none_iff.mp e
      have e2 : at' = c.length := by omega
      refine ⟨h, ?_⟩
      show ClosedTo ts am c c.length
      rw [← e2]
      exact hc
    | some x =>
      obtain ⟨here, o⟩ := x
      obtain ⟨g1, g2, g3⟩ := grows (am := am) (src := src) hin (l := nbN ts here) (fun e he => he) h e
      have hal := (List.getElem?_eq_some_iff.mp e).1
      have g4 := g2.length_le
      refine bfs_spec hin k ((nbN ts here).foldl (grow ts am here) c) (at' + 1) g1 (by omega) (fun j p o' hj hp q hr => ?_) (by omega)
      by_cases hj' : j < at'
      · have hp' : c[j]? = some (p, o') := by
          obtain ⟨r, hr'⟩ := g2
          rw [← hr', List.getElem?_append_left (by omega)] at hp
          exact hp
        exact prefix_keys g2 (hc j p o' hj' hp' q hr)
      · have ej : j = at' := by omega
        subst ej
        rw [prefix_at g2 e] at hp
        cases hp
        obtain ⟨i, hl', hr'⟩ := hr
        exact g3 (i, q) (nbN_mem.mpr hl') hr'
def bfs0 (n : Int) (ts : List Tie) (src am : List Int) : Came := bfs ts am n.toNat (src.map fun s => (s, none)) 0
theorem bfs0_ok {n : Int} {ts : List Tie} {src am : List Int} (hin : TiesIn n ts) (hn : src.Nodup) (hr : ∀ s ∈ src, 0 ≤ s ∧ s < n) : CameOk n ts am src (bfs0 n ts src am) ∧ ∀ p ∈ keysC (bfs0 n ts src am), ∀ q, Res ts am p q → q ∈ keysC (bfs0 n ts src am) := by
  obtain ⟨h1, h2⟩ := bfs_spec (am := am) hin n.toNat _ 0 (CameOk.begin hn hr) (Nat.zero_le _) (fun j p o hj => by omega) (by omega)
  refine ⟨h1, fun p hp q hq => ?_⟩
  obtain ⟨x, hx, rfl⟩ := List.mem_map.mp hp
  obtain ⟨j, hj⟩ := List.getElem?_of_mem hx
  exact h2 j x.1 x.2 (List.getElem?_eq_some_iff.mp hj).1 hj q hq

/-! #### the way to a place -/
def lookC (c : Came) (p : Int) : Option (Nat × Int) := ((c.find? fun e => decide (e.1 = p)).map (·.2)).getD none
theorem lookC_mem {c : Came} (hn : (keysC c).Nodup) {p : Int} {o : Option (Nat × Int)} (h : (p, o) ∈ c) : lookC c p = o := by
  unfold lookC
  induction c with
  | nil => cases h
  | cons x r ih =>
    unfold keysC at hn
    rw [List.map_cons, List.nodup_cons] at hn
    rcases List.mem_cons.mp h with rfl | h
    · rw [List.find?_cons_of_pos (by simp)]
      rfl
    · have hne : ¬ x.1 = p := fun z => hn.1 (by rw [z]; exact List.mem_map.mpr ⟨(p, o), h, rfl⟩)
      rw [List.find?_cons_of_neg (by simpa using hne)]
      exact ih hn.2 h
def pathF (c : Came) : Nat → Option (Nat × Int) → List (Nat × Int)
  | 0, _ => []
  | _ + 1, none => []
  | k + 1, some s => s :: pathF c k (lookC c s.2)
theorem pathF_fuel {n : Int} {ts : List Tie} {am src : List Int} {c : Came} (h : CameOk n ts am src c) : ∀ (j : Nat) e, c[j]? = some e → ∀ m, j + 1 ≤ m → pathF c m e.2 = pathF c (j + 1) e.2 := by
  intro j
  induction j using Nat.strongRecOn with
  | ind j ih =>
    rintro ⟨q, o⟩ he m hm
    obtain ⟨m', rfl⟩ : ∃ m', m = m' + 1 := ⟨m - 1, by omega⟩
    cases o with
    | none => rfl
    | some s =>
      obtain ⟨i, hp⟩ := s
      obtain ⟨j', o', h1, h2, _⟩ := h.ent j q i hp he
      have hl : lookC c hp = o' := lookC_mem h.nd (List.mem_of_getElem? h2)
      show (i, hp) :: pathF c m' (lookC c hp) = (i, hp) :: pathF c j (lookC c hp)
      rw [hl]
      have a1 := ih j' h1 (hp, o') h2 m' (by omega)
      have a2 := ih j' h1 (hp, o') h2 j (by omega)
      rw [show (hp, o').2 = o' from rfl] at a1 a2
      rw [a1, a2]
inductive PathTo (ts : List Tie) (am src : List Int) : Int → List (Nat × Int) → Prop
  | src {q : Int} : q ∈ src → PathTo ts am src q []
  | step {q h : Int} {i : Nat} {r : List (Nat × Int)} : Link ts i h q → 0 < roomF ts am i h → PathTo ts am src h r → PathTo ts am src q ((i, h) :: r)
theorem path_ok {n : Int} {ts : List Tie} {am src : List Int} {c : Came} (hin : TiesIn n ts) (h : CameOk n ts am src c) : ∀ (j : Nat) e, c[j]? = some e → PathTo ts am src e.1 (pathF c (j + 1) e.2) ∧ ((pathF c (j + 1) e.2).map (·.1)).Nodup ∧
    ∀ s ∈ pathF c (j + 1) e.2, ∃ (j1 j2 : Nat) (q : Int) (o1 o2 : Option (Nat × Int)), j1 < j2 ∧ j2 ≤ j ∧ c[j1]? = some (s.2, o1) ∧ c[j2]? = some (q, o2) ∧ Link ts s.1 s.2 q := by
  intro j
  induction j using Nat.strongRecOn with
  | ind j ih =>
    rintro ⟨q, o⟩ he
    cases o with
    | none => exact ⟨.src (h.non _ (List.mem_of_getElem? he) rfl), List.nodup_nil, fun s hs => by cases hs⟩
    | some s =>
      obtain ⟨i, hp⟩ := s
      obtain ⟨j', o', h1, h2, h3, h4⟩ := h.ent j q i hp he
      have hl : lookC c hp = o' := lookC_mem h.nd (List.mem_of_getElem? h2)
      obtain ⟨k1, k2, k3⟩ := ih j' h1 (hp, o') h2
      have e : pathF c (j + 1) (some (i, hp)) = (i, hp) :: pathF c (j' + 1) o' := by
        show (i, hp) :: pathF c j (lookC c hp) = _
        rw [hl]
        have a1 := pathF_fuel h j' (hp, o') h2 j (by omega)
        rw [show (hp, o').2 = o' from rfl] at a1
        rw [a1]
      show PathTo ts am src q (pathF c (j + 1) (some (i, hp))) ∧ ((pathF c (j + 1) (some (i, hp))).map (·.1)).Nodup ∧ ∀ s ∈ pathF c (j + 1) (some (i, hp)), _
      rw [e]
      refine ⟨.step h3 h4 k1, ?_, fun s hs => ?_⟩
      · rw [List.map_cons, List.nodup_cons]
        refine ⟨fun hm => ?_, k2⟩
        obtain ⟨s, hs, es⟩ := List.mem_map.mp hm
        obtain ⟨j1, j2, q2, o1, o2, l1, l2, c1, c2, lk⟩ := k3 s hs
        rw [es] at lk
        -- the same tie, twice
        obtain ⟨t, ht, g⟩ := h3
        obtain ⟨t', ht', g'⟩ := lk
        rw [ht] at ht'
        cases ht'
        have hr := hin t (List.mem_of_getElem? ht)
        have hd : s.2 = q ∨ q2 = q := by omega
        have inj : ∀ {a b : Nat} {x : Int} {u v : Option (Nat × Int)}, c[a]? = some (x, u) → c[b]? = some (x, v) → a = b := fun {a b x u v} ha hb => by
          have ha' : (keysC c)[a]? = some x := by unfold keysC; rw [List.getElem?_map, ha]; rfl
          have hb' : (keysC c)[b]? = some x := by unfold keysC; rw [List.getElem?_map, hb]; rfl
          exact nd_at h.nd ha' hb'
        rcases hd with hd | hd
        · rw [hd] at c1
          have := inj c1 he
          omega
        · rw [hd] at c2
          have := inj c2 he
          omega
      · rcases List.mem_cons.mp hs with rfl | hs
        · exact ⟨j', j, q, o', some (i, hp), h1, Nat.le_refl _, h2, he, h3⟩
        · obtain ⟨j1, j2, q2, o1, o2, l1, l2, r⟩ := k3 s hs
          exact ⟨j1, j2, q2, o1, o2, l1, by omega, r⟩
end Pw

/-! ## PwCut -/
namespace Pw
open PySem L2 Evl

/-! ### what goes out of places; more along a way -/
def dotF : List Tie → List Int → (Int → Int) → Int
  | t :: ts, x :: xs, g => x * (g t.1 - g t.2.1) + dotF ts xs g
  | _, _, _ => 0
def addF (ts : List Tie) (am : List Int) (i : Nat) (h m : Int) : List Int := am.set i (am.getD i 0 + (if h = (tieAt ts i).1 then m else -m))
def bringF (ts : List Tie) (m : Int) (am : List Int) (P : List (Nat × Int)) : List Int := P.foldl (fun a s => addF ts a s.1 s.2 m) am
structure Feas (ts : List Tie) (am : List Int) : Prop where
  len : am.length = ts.length
  low : ∀ (i : Nat) t x, ts[i]? = some t → am[i]? = some x → -t.2.2 ≤ x ∧ x ≤ t.2.2
theorem dotF_add : ∀ {ts : List Tie} {am : List Int} {i : Nat} {t : Tie} {x y : Int} {g : Int → Int}, am.length = ts.length → ts[i]? = some t → am[i]? = some x → dotF ts (am.set i (x + y)) g = dotF ts am g + y * (g t.1 - g t.2.1)
  | [], _, i, t, x, y, g, _, h, _ => by simp at h
  | u :: ts, [], i, t, x, y, g, hl, _, _ => by simp at hl
  | u :: ts, z :: am, 0, t, x, y, g, hl, h1, h2 => by
    simp only [List.getElem?_cons_zero, Option.some.injEq] at h1 h2
    subst h1 h2
    show (z + y) * (g u.1 - g u.2.1) + dotF ts am g = z * (g u.1 - g u.2.1) + dotF ts am g + y * (g u.1 - g u.2.1)
    rw [Int.add_mul]
    omega
  | u :: ts, z :: am, i + 1, t, x, y, g, hl, h1, h2 => by
    have ih := dotF_add (ts := ts) (am := am) (i := i) (t := t) (x := x) (y := y) (g := g) (by simpa using hl) (by simpa using h1) (by simpa using h2)
    show z * (g u.1 - g u.2.1) + dotF ts (am.set i (x + y)) g = z * (g u.1 - g u.2.1) + dotF ts am g + y * (g t.1 - g t.2.1)
    rw [ih]
    omega
theorem link_at {n : Int} {ts : List Tie} (hin : TiesIn n ts) {am : List Int} (hl : am.length = ts.length) {i : Nat} {h q : Int} (lk : Link ts i h q) :
    ∃ t x, ts[i]? = some t ∧ am[i]? = some x ∧ tieAt ts i = t ∧ am.getD i 0 = x ∧ (h = t.1 ∧ q = t.2.1 ∨ h ≠ t.1 ∧ h = t.2.1 ∧ q = t.1) := by
  obtain ⟨t, ht, c⟩ := lk
  have hi := (List.getElem?_eq_some_iff.mp ht).1
  have hr := hin t (List.mem_of_getElem? ht)
  refine ⟨t, am[i]'(by omega), ht, List.getElem?_eq_getElem (by omega), tieAt_of ht, ?_, by omega⟩
  rw [List.getD_eq_getElem?_getD, List.getElem?_eq_getElem (by omega)]
  rfl
theorem addF_len {ts : List Tie} {am : List Int} {i : Nat} {h m : Int} : (addF ts am i h m).length = am.length := List.length_set
theorem addF_dot {n : Int} {ts : List Tie} (hin : TiesIn n ts) {am : List Int} (hl : am.length = ts.length) {i : Nat} {h q m : Int} (lk : Link ts i h q) (g : Int → Int) : dotF ts (addF ts am i h m) g = dotF ts am g + m * (g h - g q) := by
  obtain ⟨t, x, h1, h2, h3, h4, c⟩ := link_at hin hl lk
  unfold addF
  rw [h3, h4]
  rcases c with ⟨rfl, rfl⟩ | ⟨c1, rfl, rfl⟩
  · rw [if_pos rfl]
    exact dotF_add hl h1 h2
  · rw [if_neg c1, dotF_add hl h1 h2, Int.neg_mul, ← Int.mul_neg, Int.neg_sub]
theorem addF_other {ts : List Tie} {am : List Int} {i j : Nat} {h m p : Int} (hij : i ≠ j) : roomF ts (addF ts am i h m) j p = roomF ts am j p := by
  unfold roomF addF
  rw [List.getD_eq_getElem?_getD, List.getElem?_set_ne hij, ← List.getD_eq_getElem?_getD]
theorem addF_feas {n : Int} {ts : List Tie} (hin : TiesIn n ts) {am : List Int} (F : Feas ts am) {i : Nat} {h q m : Int} (lk : Link ts i h q) (h0 : 0 ≤ m) (hm : m ≤ roomF ts am i h) : Feas ts (addF ts am i h m) := by
  obtain ⟨t, x, h1, h2, h3, h4, c⟩ := link_at hin F.len lk
  have hb := F.low i t x h1 h2
  refine ⟨by rw [addF_len, F.len], fun j t' x' g1 g2 => ?_⟩
  by_cases hij : i = j
  · subst hij
    rw [h1] at g1
    cases g1
    unfold addF at g2
    rw [h3, h4, List.getElem?_set_self (List.getElem?_eq_some_iff.mp h2).1] at g2
    have g2 := Option.some.inj g2
    unfold roomF at hm
    rw [h3, h4] at hm
    rcases c with ⟨c1, _⟩ | ⟨c1, _⟩
    · rw [if_pos c1] at g2 hm
      omega
    · rw [if_neg c1] at g2 hm
      omega
  · unfold addF at g2
    rw [List.getElem?_set_ne hij] at g2
    exact F.low j t' x' g1 g2
theorem bringF_feas {n : Int} {ts : List Tie} (hin : TiesIn n ts) {m : Int} (h0 : 0 ≤ m) : ∀ (P : List (Nat × Int)) (am : List Int), Feas ts am → (P.map (·.1)).Nodup → (∀ s ∈ P, m ≤ roomF ts am s.1 s.2 ∧ ∃ q, Link ts s.1 s.2 q) → Feas ts (bringF ts m am P)
  | [], am, F, _, _ => F
  | s :: P, am, F, hn, hs => by
    rw [List.map_cons, List.nodup_cons] at hn
    obtain ⟨h1, q, h2⟩ := hs s List.mem_cons_self
    refine bringF_feas hin h0 P (addF ts am s.1 s.2 m) (addF_feas hin F h2 h0 h1) hn.2 fun s' hs' => ?_
    have := hs s' (List.mem_cons_of_mem _ hs')
    refine ⟨?_, this.2⟩
    rw [addF_other fun e => hn.1 (by rw [e]; exact List.mem_map.mpr ⟨s', hs', rfl⟩)]
    exact this.1
theorem bringF_len {ts : List Tie} {m : Int} : ∀ (P : List (Nat × Int)) (am : List Int), (bringF ts m am P).length = am.length
  | [], am => rfl
  | s :: P, am => (bringF_len P (addF ts am s.1 s.2 m)).trans addF_len
theorem PathTo.links {ts : List Tie} {am src : List Int} {q : Int} {P : List (Nat × Int)} (h : PathTo ts am src q P) : ∀ s ∈ P, 0 < roomF ts am s.1 s.2 ∧ ∃ q, Link ts s.1 s.2 q := by
  induction h with
  | src _ => exact fun s hs => by cases hs
  | step l r p ih =>
    intro s hs
    rcases List.mem_cons.mp hs with rfl | hs
    · exact ⟨r, _, l⟩
    · exact ih s hs
theorem bringF_dot {n : Int} {ts : List Tie} (hin : TiesIn n ts) {m : Int} {am src : List Int} {q : Int} {P : List (Nat × Int)} (h : PathTo ts am src q P) : ∀ a : List Int, a.length = ts.length → ∃ s ∈ src, ∀ g : Int → Int, dotF ts (bringF ts m a P) g = dotF ts a g + m * (g s - g q) := by
  induction h with
  | @src q hq => exact fun a _ => ⟨q, hq, fun g => by
      show dotF ts a g = _
      rw [Int.sub_self, Int.mul_zero, Int.add_zero]⟩
  | @step q h i r lk _ _ ih =>
    intro a hl
    obtain ⟨s, hs, e⟩ := ih (addF ts a i h m) (by rw [addF_len, hl])
    refine ⟨s, hs, fun g => ?_⟩
    show dotF ts (bringF ts m (addF ts a i h m) r) g = _
    rw [e g, addF_dot hin hl lk g, Int.add_assoc, ← Int.mul_add]
    congr 2
    omega

/-! ### sums over places -/
def one1 (p : Int) : Int → Int := fun x => if x = p then 1 else 0
def indL (X : List Int) : Int → Int := fun x => if x ∈ X then 1 else 0
theorem dotF_zero : ∀ (ts : List Tie) (am : List Int), dotF ts am (fun _ => 0) = 0
  | [], _ => by unfold dotF; rfl
  | _ :: _, [] => by unfold dotF; rfl
  | t :: ts, x :: xs => by
    show x * (0 - 0) + dotF ts xs (fun _ => 0) = 0
    rw [dotF_zero ts xs, Int.sub_self, Int.mul_zero, Int.add_zero]
theorem dotF_plus (g k : Int → Int) : ∀ (ts : List Tie) (am : List Int), dotF ts am (fun x => g x + k x) = dotF ts am g + dotF ts am k
  | [], _ => by unfold dotF; rfl
  | _ :: _, [] => by unfold dotF; rfl
  | t :: ts, x :: xs => by
    show x * ((g t.1 + k t.1) - (g t.2.1 + k t.2.1)) + dotF ts xs (fun x => g x + k x) = x * (g t.1 - g t.2.1) + dotF ts xs g + (x * (k t.1 - k t.2.1) + dotF ts xs k)
    rw [dotF_plus g k ts xs, show (g t.1 + k t.1) - (g t.2.1 + k t.2.1) = (g t.1 - g t.2.1) + (k t.1 - k t.2.1) by omega, Int.mul_add]
    omega
def outF (ts : List Tie) (am : List Int) (p : Int) : Int := dotF ts am (one1 p)
theorem out_sum (ts : List Tie) (am : List Int) : ∀ X : List Int, X.Nodup → (X.map (outF ts am)).sum = dotF ts am (indL X)
  | [], _ => by
    have e : indL [] = fun _ => 0 := funext fun x => if_neg (fun h => by cases h)
    rw [e, dotF_zero]
    rfl
  | a :: X, h => by
    rw [List.nodup_cons] at h
    have e : indL (a :: X) = fun x => one1 a x + indL X x := funext fun x => by
      show (if x ∈ a :: X then (1 : Int) else 0) = (if x = a then (1 : Int) else 0) + (if x ∈ X then (1 : Int) else 0)
      by_cases h1 : x = a
      · rw [if_pos (by rw [h1]; exact List.mem_cons_self), if_pos h1, if_neg (by rw [h1]; exact h.1)]
        rfl
      · by_cases h2 : x ∈ X
        · rw [if_pos (List.mem_cons_of_mem _ h2), if_neg h1, if_pos h2]
          rfl
        · rw [if_neg (fun z => (List.mem_cons.mp z).elim h1 h2), if_neg h1, if_neg h2]
          rfl
    rw [e, dotF_plus, List.map_cons, List.sum_cons, out_sum ts am X h.2]
    rfl
/-- nothing stays on the way -/
def Kept (ts : List Tie) (am src snk : List Int) : Prop := ∀ p, p ∉ src → p ∉ snk → outF ts am p = 0
theorem sum_drop (f : Int → Int) (c : Int → Bool) : ∀ X : List Int, (∀ x ∈ X, c x = false → f x = 0) → (X.map f).sum = ((X.filter c).map f).sum
  | [], _ => rfl
  | a :: X, h => by
    have ih := sum_drop f c X fun x hx => h x (List.mem_cons_of_mem _ hx)
    rw [List.map_cons, List.sum_cons, ih, List.filter_cons]
    cases e : c a with
    | true => rw [if_pos rfl, List.map_cons, List.sum_cons]
    | false =>
      rw [if_neg (by decide), h a List.mem_cons_self e]
      omega
theorem sum_perm {l m : List Int} (h : l.Perm m) : l.sum = m.sum := by
  induction h with
  | nil => rfl
  | cons x _ ih => rw [List.sum_cons, List.sum_cons, ih]
  | swap x y l =>
    rw [List.sum_cons, List.sum_cons, List.sum_cons, List.sum_cons]
    omega
  | trans _ _ a b => exact a.trans b
/-- what goes out of a side -/
theorem side_out {ts : List Tie} {am src snk X : List Int} (hk : Kept ts am src snk) (hs : src.Nodup) (hX : X.Nodup) (h1 : ∀ s ∈ src, s ∈ X) (h2 : ∀ s ∈ snk, s ∉ X) : dotF ts am (indL X) = dotF ts am (indL src) := by
  rw [← out_sum ts am X hX, ← out_sum ts am src hs, sum_drop (outF ts am) (fun x => decide (x ∈ src)) X fun x hx hc => hk x (of_decide_eq_false hc) fun z => h2 x z hx]
  have p : (X.filter fun x => decide (x ∈ src)).Perm src := (List.perm_ext_iff_of_nodup (hX.filter _) hs).mpr fun a => by
    rw [List.mem_filter, decide_eq_true_iff]
    exact ⟨fun h => h.2, fun h => ⟨h1 a h, h⟩⟩
  exact sum_perm (p.map _)

/-! ### sides and what they weigh -/
def cutW (ts : List Tie) (X : List Int) : Int := ((ts.filter fun t => decide (t.1 ∈ X) != decide (t.2.1 ∈ X)).map (·.2.2)).sum
def cutT (X : List Int) (t : Tie) : Int := if (decide (t.1 ∈ X) != decide (t.2.1 ∈ X)) = true then t.2.2 else 0
theorem cutW_eq (X : List Int) : ∀ ts : List Tie, cutW ts X = (ts.map (cutT X)).sum
  | [] => rfl
  | t :: ts => by
    have ih := cutW_eq X ts
    unfold cutW at ih ⊢
    rw [List.filter_cons, List.map_cons, List.sum_cons, ← ih]
    unfold cutT
    split
    · rw [List.map_cons, List.sum_cons]
    · rw [Int.zero_add]
theorem term_le {t : Tie} {x : Int} {X : List Int} (h : -t.2.2 ≤ x ∧ x ≤ t.2.2) : x * (indL X t.1 - indL X t.2.1) ≤ cutT X t ∧ (x * (indL X t.1 - indL X t.2.1) = cutT X t → (t.1 ∈ X → t.2.1 ∉ X → x = t.2.2) ∧ (t.1 ∉ X → t.2.1 ∈ X → x = -t.2.2)) := by
  unfold indL cutT
  by_cases h1 : t.1 ∈ X <;> by_cases h2 : t.2.1 ∈ X <;> simp [h1, h2] <;> omega
theorem dot_le {X : List Int} : ∀ {ts : List Tie} {am : List Int}, Feas ts am → dotF ts am (indL X) ≤ cutW ts X ∧ (dotF ts am (indL X) = cutW ts X → ∀ (i : Nat) t x, ts[i]? = some t → am[i]? = some x → (t.1 ∈ X → t.2.1 ∉ X → x = t.2.2) ∧ (t.1 ∉ X → t.2.1 ∈ X → x = -t.2.2))
  | [], am, F => ⟨by unfold dotF; exact Int.le_refl _, fun _ i t x h => by simp at h⟩
  | t :: ts, [], F => by
    have := F.len
    simp at this
  | t :: ts, x :: am, F => by
    obtain ⟨i1, i2⟩ := dot_le (X := X) (ts := ts) (am := am) ⟨by have := F.len; simpa using this, fun i t' x' g1 g2 => F.low (i + 1) t' x' (by simpa using g1) (by simpa using g2)⟩
    obtain ⟨t1, t2⟩ := term_le (X := X) (F.low 0 t x rfl rfl)
    rw [cutW_eq] at i1 i2 ⊢
    rw [List.map_cons, List.sum_cons]
    have e : dotF (t :: ts) (x :: am) (indL X) = x * (indL X t.1 - indL X t.2.1) + dotF ts am (indL X) := rfl
    rw [e]
    refine ⟨by omega, fun heq i t' x' g1 g2 => ?_⟩
    cases i with
    | zero =>
      simp only [List.getElem?_cons_zero, Option.some.injEq] at g1 g2
      subst g1 g2
      exact t2 (by omega)
    | succ i => exact i2 (by omega) i t' x' (by simpa using g1) (by simpa using g2)
theorem dot_eq {X : List Int} : ∀ {ts : List Tie} {am : List Int}, am.length = ts.length → (∀ (i : Nat) t x, ts[i]? = some t → am[i]? = some x → (t.1 ∈ X → t.2.1 ∉ X → x = t.2.2) ∧ (t.1 ∉ X → t.2.1 ∈ X → x = -t.2.2)) → dotF ts am (indL X) = cutW ts X
  | [], am, _, _ => by unfold dotF; rfl
  | t :: ts, [], h, _ => by simp at h
  | t :: ts, x :: am, hl, h => by
    have ih := dot_eq (X := X) (ts := ts) (am := am) (by simpa using hl) fun i t' x' g1 g2 => h (i + 1) t' x' (by simpa using g1) (by simpa using g2)
    have h0 := h 0 t x rfl rfl
    rw [cutW_eq] at ih ⊢
    rw [List.map_cons, List.sum_cons, ← ih]
    show x * (indL X t.1 - indL X t.2.1) + dotF ts am (indL X) = cutT X t + dotF ts am (indL X)
    congr 1
    unfold indL cutT
    by_cases h1 : t.1 ∈ X <;> by_cases h2 : t.2.1 ∈ X <;> simp [h1, h2] <;> simp [h1, h2] at h0 <;> omega
/-- a side: all sources, no sinks -/
structure Side (src snk X : List Int) : Prop where
  nd : X.Nodup
  all : ∀ s ∈ src, s ∈ X
  no : ∀ s ∈ snk, s ∉ X
def ClosedS (ts : List Tie) (am X : List Int) : Prop := ∀ p ∈ X, ∀ q, Res ts am p q → q ∈ X
theorem closed_sat {n : Int} {ts : List Tie} (hin : TiesIn n ts) {am X : List Int} (F : Feas ts am) (h : ClosedS ts am X) : ∀ (i : Nat) t x, ts[i]? = some t → am[i]? = some x → (t.1 ∈ X → t.2.1 ∉ X → x = t.2.2) ∧ (t.1 ∉ X → t.2.1 ∈ X → x = -t.2.2) := fun i t x g1 g2 => by
  have hb := F.low i t x g1 g2
  have hr := hin t (List.mem_of_getElem? g1)
  have ga : am.getD i 0 = x := by rw [List.getD_eq_getElem?_getD, g2]; rfl
  have r1 : roomF ts am i t.1 = t.2.2 - x := by unfold roomF; rw [tieAt_of g1, if_pos rfl, ga]
  have r2 : roomF ts am i t.2.1 = t.2.2 + x := by unfold roomF; rw [tieAt_of g1, if_neg (by omega), ga]
  refine ⟨fun h1 h2 => ?_, fun h1 h2 => ?_⟩
  · by_cases z : 0 < roomF ts am i t.1
    · exact absurd (h t.1 h1 t.2.1 ⟨i, ⟨t, g1, .inl ⟨rfl, rfl⟩⟩, z⟩) h2
    · omega
  · by_cases z : 0 < roomF ts am i t.2.1
    · exact absurd (h t.2.1 h2 t.1 ⟨i, ⟨t, g1, .inr ⟨rfl, rfl⟩⟩, z⟩) h1
    · omega
theorem sat_closed {n : Int} {ts : List Tie} (hin : TiesIn n ts) {am X : List Int} (hl : am.length = ts.length) (h : ∀ (i : Nat) t x, ts[i]? = some t → am[i]? = some x → (t.1 ∈ X → t.2.1 ∉ X → x = t.2.2) ∧ (t.1 ∉ X → t.2.1 ∈ X → x = -t.2.2)) : ClosedS ts am X := fun p hp q ⟨i, lk, hr⟩ => by
  obtain ⟨t, x, h1, h2, h3, h4, c⟩ := link_at hin hl lk
  have hs := h i t x h1 h2
  unfold roomF at hr
  rw [h3, h4] at hr
  refine Classical.byContradiction fun hq => ?_
  rcases c with ⟨c1, c2⟩ | ⟨c0, c1, c2⟩
  · rw [if_pos c1] at hr
    have := hs.1 (by rw [← c1]; exact hp) (by rw [← c2]; exact hq)
    omega
  · rw [if_neg c0] at hr
    have := hs.2 (by rw [← c2]; exact hq) (by rw [← c1]; exact hp)
    omega
/-- the lightest sides are just those from which nothing more could be brought -/
theorem light_iff {n : Int} {ts : List Tie} (hin : TiesIn n ts) {am src snk X : List Int} (F : Feas ts am) (hk : Kept ts am src snk) (hs : src.Nodup) (hX : Side src snk X) :
    dotF ts am (indL src) ≤ cutW ts X ∧ (cutW ts X = dotF ts am (indL src) ↔ ClosedS ts am X) := by
  have e := side_out hk hs hX.nd hX.all hX.no
  obtain ⟨h1, h2⟩ := dot_le (X := X) F
  refine ⟨by omega, fun h => sat_closed hin F.len (h2 (by omega)), fun h => ?_⟩
  have := dot_eq F.len (closed_sat hin F h)
  omega
end Pw

/-! ## PwFill -/
namespace Pw
open PySem L2 Evl

/-! ### filling: more and more along ways, until there is none -/
def leastL : List Int → Int
  | [] => 0
  | a :: r => r.foldl (fun m y => if y < m then y else m) a
theorem least_fold : ∀ (r : List Int) (a : Int), (r.foldl (fun m y => if y < m then y else m) a ∈ a :: r) ∧ ∀ y ∈ a :: r, r.foldl (fun m y => if y < m then y else m) a ≤ y
  | [], a => ⟨List.mem_cons_self, fun y hy => by rw [List.mem_singleton.mp hy]; exact Int.le_refl a⟩
  | b :: r, a => by
    obtain ⟨h1, h2⟩ := least_fold r (if b < a then b else a)
    show r.foldl (fun m y => if y < m then y else m) (if b < a then b else a) ∈ a :: b :: r ∧ ∀ y ∈ a :: b :: r, r.foldl (fun m y => if y < m then y else m) (if b < a then b else a) ≤ y
    have h0 := h2 (if b < a then b else a) List.mem_cons_self
    refine ⟨?_, fun y hy => ?_⟩
    · rcases List.mem_cons.mp h1 with e | e
      · rw [e]
        split
        · exact List.mem_cons_of_mem _ List.mem_cons_self
        · exact List.mem_cons_self
      · exact List.mem_cons_of_mem _ (List.mem_cons_of_mem _ e)
    · rcases List.mem_cons.mp hy with rfl | hy
      · split at h0 <;> split <;> omega
      · rcases List.mem_cons.mp hy with rfl | hy
        · split at h0 <;> split <;> omega
        · exact h2 y (List.mem_cons_of_mem _ hy)
theorem leastL_ok {l : List Int} (h : l ≠ []) : leastL l ∈ l ∧ ∀ y ∈ l, leastL l ≤ y := by
  cases l with
  | nil => exact absurd rfl h
  | cons a r => exact least_fold r a
def seenIn (snk : List Int) (c : Came) : List Int := (keysC c).filter fun p => decide (p ∈ snk)
def wayTo (c : Came) (q : Int) : List (Nat × Int) := pathF c c.length (lookC c q)
def roomsF (ts : List Tie) (am : List Int) (P : List (Nat × Int)) : List Int := P.map fun s => roomF ts am s.1 s.2
def moreF (ts : List Tie) (am : List Int) (c : Came) (q : Int) : List Int := bringF ts (leastL (roomsF ts am (wayTo c q))) am (wayTo c q)
inductive Fill (n : Int) (ts : List Tie) (src snk : List Int) : List Int → List Int → Prop
  | done {am : List Int} : seenIn snk (bfs0 n ts src am) = [] → Fill n ts src snk am am
  | more {am am' : List Int} {q : Int} {r : List Int} : seenIn snk (bfs0 n ts src am) = q :: r → Fill n ts src snk (moreF ts am (bfs0 n ts src am) q) am' → Fill n ts src snk am am'
theorem Fill.det {n : Int} {ts : List Tie} {src snk a x y : List Int} (h : Fill n ts src snk a x) : Fill n ts src snk a y → x = y := by
  induction h with
  | done h1 =>
    intro g
    cases g with
    | done _ => rfl
    | more h2 _ => rw [h1] at h2; cases h2
  | more h1 _ ih =>
    intro g
    cases g with
    | done h2 => rw [h1] at h2; cases h2
    | more h2 g2 =>
      rw [h1] at h2
      cases h2
      exact ih g2
/-- the ends: in the web, each once, none both -/
structure Ends2 (n : Int) (src snk : List Int) : Prop where
  nd : src.Nodup
  nd2 : snk.Nodup
  rng : ∀ s ∈ src, 0 ≤ s ∧ s < n
  rng2 : ∀ s ∈ snk, 0 ≤ s ∧ s < n
  apart : ∀ s ∈ src, s ∉ snk
section
variable {n : Int} {ts : List Tie} {src snk am : List Int}
theorem way_ok (hin : TiesIn n ts) (e : Ends2 n src snk) {q : Int} (hq : q ∈ seenIn snk (bfs0 n ts src am)) :
    PathTo ts am src q (wayTo (bfs0 n ts src am) q) ∧ ((wayTo (bfs0 n ts src am) q).map (·.1)).Nodup ∧ wayTo (bfs0 n ts src am) q ≠ [] ∧ q ∈ snk ∧ q ∉ src := by
  obtain ⟨h1, _⟩ := bfs0_ok (am := am) hin e.nd e.rng
  obtain ⟨hk, hs⟩ := List.mem_filter.mp hq
  have hs := of_decide_eq_true hs
  obtain ⟨x, hx, rfl⟩ := List.mem_map.mp hk
  obtain ⟨j, hj⟩ := List.getElem?_of_mem hx
  have hjl := (List.getElem?_eq_some_iff.mp hj).1
  have hl : lookC (bfs0 n ts src am) x.1 = x.2 := lookC_mem h1.nd hx
  obtain ⟨p1, p2, _⟩ := path_ok hin h1 j x hj
  have ew : wayTo (bfs0 n ts src am) x.1 = pathF (bfs0 n ts src am) (j + 1) x.2 := by
    unfold wayTo
    rw [hl]
    exact pathF_fuel h1 j x hj _ (by omega)
  have hns : x.1 ∉ src := fun z => e.apart _ z hs
  rw [ew]
  refine ⟨p1, p2, fun z => ?_, hs, hns⟩
  rw [z] at p1
  cases p1 with
  | src h => exact hns h
theorem more_ok (hin : TiesIn n ts) (e : Ends2 n src snk) (F : Feas ts am) (hk : Kept ts am src snk) {q : Int} (hq : q ∈ seenIn snk (bfs0 n ts src am)) :
    Feas ts (moreF ts am (bfs0 n ts src am) q) ∧ Kept ts (moreF ts am (bfs0 n ts src am) q) src snk ∧ dotF ts am (indL src) + 1 ≤ dotF ts (moreF ts am (bfs0 n ts src am) q) (indL src) := by
  obtain ⟨p1, p2, p3, p4, p5⟩ := way_ok hin e hq
  unfold moreF
  generalize wayTo (bfs0 n ts src am) q = P at p1 p2 p3
  obtain ⟨m1, m2⟩ := leastL_ok (l := roomsF ts am P) (fun z => p3 (by unfold roomsF at z; exact List.map_eq_nil_iff.mp z))
  have hlink := p1.links
  have hm : 0 < leastL (roomsF ts am P) := by
    obtain ⟨s, hs, e2⟩ := List.mem_map.mp m1
    rw [← e2]
    exact (hlink s hs).1
  generalize leastL (roomsF ts am P) = m at m1 m2 hm
  obtain ⟨s, hs, hd⟩ := bringF_dot (m := m) hin p1 am F.len
  refine ⟨bringF_feas hin (by omega) P am F p2 fun s hs => ⟨m2 _ (List.mem_map.mpr ⟨s, hs, rfl⟩), (hlink s hs).2⟩, fun p hp1 hp2 => ?_, ?_⟩
  · unfold outF
    rw [hd]
    have h1 : one1 p s = 0 := if_neg fun z => hp1 (by rw [← z]; exact hs)
    have h2 : one1 p q = 0 := if_neg fun z => hp2 (by rw [← z]; exact p4)
    rw [h1, h2, Int.sub_self, Int.mul_zero, Int.add_zero]
    exact hk p hp1 hp2
  · rw [hd]
    have h1 : indL src s = 1 := if_pos hs
    have h2 : indL src q = 0 := if_neg p5
    rw [h1, h2]
    omega
theorem fill_ex (hin : TiesIn n ts) (e : Ends2 n src snk) : ∀ (k : Nat) (am : List Int), Feas ts am → Kept ts am src snk → (cutW ts src - dotF ts am (indL src)).toNat ≤ k →
    ∃ am', Fill n ts src snk am am' ∧ Feas ts am' ∧ Kept ts am' src snk ∧ seenIn snk (bfs0 n ts src am') = []
  | k, am, F, hk, hm => by
    cases h : seenIn snk (bfs0 n ts src am) with
    | nil => exact ⟨am, .done h, F, hk, h⟩
    | cons q r =>
      obtain ⟨g1, g2, g3⟩ := more_ok hin e F hk (q := q) (by rw [h]; exact List.mem_cons_self)
      have g4 := (dot_le (X := src) g1).1
      cases k with
      | zero => omega
      | succ k =>
        obtain ⟨am', a1, a2⟩ := fill_ex hin e k _ g1 g2 (by omega)
        exact ⟨am', .more h a1, a2⟩
def noAm (ts : List Tie) : List Int := List.replicate ts.length 0
theorem no_dot (g : Int → Int) : ∀ ts : List Tie, dotF ts (noAm ts) g = 0
  | [] => by unfold dotF; rfl
  | t :: ts => by
    show 0 * (g t.1 - g t.2.1) + dotF ts (noAm ts) g = 0
    rw [no_dot g ts, Int.zero_mul, Int.add_zero]
theorem no_feas (hw : ∀ t ∈ ts, 0 ≤ t.2.2) : Feas ts (noAm ts) := ⟨List.length_replicate, fun i t x h1 h2 => by
  have := hw t (List.mem_of_getElem? h1)
  have e : x = 0 := List.eq_of_mem_replicate (List.mem_of_getElem? h2)
  omega⟩
theorem no_kept : Kept ts (noAm ts) src snk := fun p _ _ => no_dot _ ts
theorem fill_0 (hin : TiesIn n ts) (hw : ∀ t ∈ ts, 0 ≤ t.2.2) (e : Ends2 n src snk) : ∃ am', Fill n ts src snk (noAm ts) am' ∧ Feas ts am' ∧ Kept ts am' src snk ∧ seenIn snk (bfs0 n ts src am') = [] :=
  fill_ex hin e _ _ (no_feas hw) no_kept (Nat.le_refl _)
/-- what is told of a web and its ends -/
structure Flowed (n : Int) (ts : List Tie) (src snk am : List Int) : Prop where
  fill : Fill n ts src snk (noAm ts) am
  feas : Feas ts am
  kept : Kept ts am src snk
  side : Side src snk (keysC (bfs0 n ts src am))
  closed : ClosedS ts am (keysC (bfs0 n ts src am))
  rng : ∀ p ∈ keysC (bfs0 n ts src am), 0 ≤ p ∧ p < n
theorem flowed_ex (hin : TiesIn n ts) (hw : ∀ t ∈ ts, 0 ≤ t.2.2) (e : Ends2 n src snk) : ∃ am, Flowed n ts src snk am := by
  obtain ⟨am, h1, h2, h3, h4⟩ := fill_0 hin hw e
  obtain ⟨g1, g2⟩ := bfs0_ok (am := am) hin e.nd e.rng
  refine ⟨am, h1, h2, h3, ⟨g1.nd, fun s hs => List.mem_map.mpr ⟨_, g1.beg s hs, rfl⟩, fun s hs hm => ?_⟩, g2, g1.rng⟩
  have : s ∈ seenIn snk (bfs0 n ts src am) := List.mem_filter.mpr ⟨hm, decide_eq_true hs⟩
  rw [h4] at this
  cases this
theorem Flowed.one {a b : List Int} (h : Flowed n ts src snk a) (g : Flowed n ts src snk b) : a = b := h.fill.det g.fill
/-- the side lies in each lightest one -/
theorem came_in (hin : TiesIn n ts) (hn : src.Nodup) (hr : ∀ s ∈ src, 0 ≤ s ∧ s < n) {X : List Int} (hX : ∀ s ∈ src, s ∈ X) (hc : ClosedS ts am X) : ∀ p ∈ keysC (bfs0 n ts src am), p ∈ X := fun p hp => by
  obtain ⟨h1, _⟩ := bfs0_ok (am := am) hin hn hr
  obtain ⟨x, hx, rfl⟩ := List.mem_map.mp hp
  obtain ⟨j, hj⟩ := List.getElem?_of_mem hx
  have key : ∀ j : Nat, ∀ x, (bfs0 n ts src am)[j]? = some x → x.1 ∈ X := by
    intro j
    induction j using Nat.strongRecOn with
    | ind j ih =>
      rintro ⟨q, o⟩ hj
      cases o with
      | none => exact hX _ (h1.non _ (List.mem_of_getElem? hj) rfl)
      | some s =>
        obtain ⟨i, h⟩ := s
        obtain ⟨j', o', k1, k2, k3, k4⟩ := h1.ent j q i h hj
        exact hc h (ih j' k1 _ k2) q ⟨i, k3, k4⟩
  exact key j x hj
/-- from where a sink can be reached -/
structure BackTo (n : Int) (ts : List Tie) (am snk L : List Int) : Prop where
  nd : L.Nodup
  rng : ∀ p ∈ L, 0 ≤ p ∧ p < n
  all : ∀ s ∈ snk, s ∈ L
  back : ∀ q ∈ L, ∀ p, Res ts am p q → p ∈ L
  least : ∀ Y : List Int, (∀ s ∈ snk, s ∈ Y) → (∀ q ∈ Y, ∀ p, Res ts am p q → p ∈ Y) → ∀ p ∈ L, p ∈ Y
theorem BackTo.one {L M : List Int} (h : BackTo n ts am snk L) (g : BackTo n ts am snk M) : ∀ p, p ∈ L ↔ p ∈ M := fun p => ⟨h.least M g.all g.back p, g.least L h.all h.back p⟩
def wideL (n : Int) (L : List Int) : List Int := (rngI 0 n.toNat).filter fun p => !decide (p ∈ L)
theorem wide_mem {L : List Int} {p : Int} : p ∈ wideL n L ↔ (0 ≤ p ∧ p < n) ∧ p ∉ L := by
  unfold wideL
  rw [List.mem_filter, rngI_mem]
  by_cases h : p ∈ L <;> simp [h] <;> omega
theorem res_in (hin : TiesIn n ts) {p q : Int} (h : Res ts am p q) : (0 ≤ p ∧ p < n) ∧ 0 ≤ q ∧ q < n := by
  obtain ⟨i, lk, _⟩ := h
  exact ⟨(lk.rng hin).1, (lk.rng hin).2.1⟩
theorem wide_closed (hin : TiesIn n ts) {L : List Int} (h : BackTo n ts am snk L) : ClosedS ts am (wideL n L) := fun p hp q hr => by
  rw [wide_mem] at hp ⊢
  exact ⟨(res_in hin hr).2, fun hq => hp.2 (h.back q hq p hr)⟩
theorem wide_side (hin : TiesIn n ts) (e : Ends2 n src snk) (F : Flowed n ts src snk am) {L : List Int} (h : BackTo n ts am snk L) : Side src snk (wideL n L) := by
  refine ⟨(rngI_nd _ _).filter _, fun s hs => wide_mem.mpr ⟨e.rng s hs, fun hL => ?_⟩, fun s hs hw => (wide_mem.mp hw).2 (h.all s hs)⟩
  -- what is not reached is closed backwards
  have := h.least ((rngI 0 n.toNat).filter fun p => !decide (p ∈ keysC (bfs0 n ts src am))) (fun t ht => ?_) (fun q hq p hr => ?_) s hL
  · rw [List.mem_filter] at this
    have h2 : s ∈ keysC (bfs0 n ts src am) := F.side.all s hs
    rw [decide_eq_true h2] at this
    exact absurd this.2 (by decide)
  · have := e.rng2 t ht
    rw [List.mem_filter, rngI_mem, decide_eq_false (F.side.no t ht)]
    exact ⟨by omega, rfl⟩
  · rw [List.mem_filter, rngI_mem] at hq ⊢
    have hpr := (res_in hin hr).1
    refine ⟨by omega, ?_⟩
    by_cases z : p ∈ keysC (bfs0 n ts src am)
    · rw [decide_eq_true (F.closed p z q hr)] at hq
      exact absurd hq.2 (by decide)
    · rw [decide_eq_false z]
      rfl
/-- each lightest side lies in the wide one -/
theorem in_wide (hin : TiesIn n ts) (e : Ends2 n src snk) {L X : List Int} (h : BackTo n ts am snk L) (hX : Side src snk X) (hr : ∀ p ∈ X, 0 ≤ p ∧ p < n) (hc : ClosedS ts am X) : ∀ p ∈ X, p ∈ wideL n L := fun p hp => by
  refine wide_mem.mpr ⟨hr p hp, fun hL => ?_⟩
  have := h.least ((rngI 0 n.toNat).filter fun p => !decide (p ∈ X)) (fun t ht => ?_) (fun q hq p hres => ?_) p hL
  · rw [List.mem_filter, decide_eq_true hp] at this
    exact absurd this.2 (by decide)
  · have := e.rng2 t ht
    rw [List.mem_filter, rngI_mem, decide_eq_false (hX.no t ht)]
    exact ⟨by omega, rfl⟩
  · rw [List.mem_filter, rngI_mem] at hq ⊢
    have hpr := (res_in hin hres).1
    refine ⟨by omega, ?_⟩
    by_cases z : p ∈ X
    · rw [decide_eq_true (hc p z q hres)] at hq
      exact absurd hq.2 (by decide)
    · rw [decide_eq_false z]
      rfl
end
end Pw

/-! ## PwFlowO -/
namespace Pw
open PySem L2 Evl

/-! ### the object that flows, as the program keeps it -/
def eN (e : Nat × Int) : PyData := pairD ((e.1 : Int), e.2)
def nearN (n : Int) (ts : List Tie) : PyData := .list ((rngI 0 n.toNat).map fun p => .list ((nbN ts p).map eN))
theorem nbN_snoc (ts : List Tie) (t : Tie) (p : Int) : nbN (ts ++ [t]) p = nbN ts p ++ ((if t.1 = p then [(ts.length, t.2.1)] else []) ++ (if t.2.1 = p then [(ts.length, t.1)] else [])) := by
  unfold nbN
  rw [List.zipIdx_append, List.flatMap_append]
  simp
theorem nbN_len : ∀ (ts : List Tie) (p : Int) (k : Nat), ((ts.zipIdx k).flatMap fun x => (if x.1.1 = p then [(x.2, x.1.2.1)] else []) ++ (if x.1.2.1 = p then [(x.2, x.1.1)] else [])).length ≤ 2 * ts.length
  | [], _, _ => Nat.zero_le _
  | t :: ts, p, k => by
    have ih := nbN_len ts p (k + 1)
    rw [List.zipIdx_cons, List.flatMap_cons, List.length_append, List.length_append, List.length_cons]
    have h1 : (if t.1 = p then [(k, t.2.1)] else []).length ≤ 1 := by split <;> exact Nat.le_of_ble_eq_true rfl
    have h2 : (if t.2.1 = p then [(k, t.1)] else []).length ≤ 1 := by split <;> exact Nat.le_of_ble_eq_true rfl
    have h1 : (if (t, k).1.1 = p then [((t, k).2, (t, k).1.2.1)] else []).length ≤ 1 := h1
    have h2 : (if (t, k).1.2.1 = p then [((t, k).2, (t, k).1.1)] else []).length ≤ 1 := h2
    omega
theorem nbN_few (ts : List Tie) (p : Int) : (nbN ts p).length ≤ 2 * ts.length := nbN_len ts p 0
def FlowObj (K : PySem.W.Frag) (C p A : Addr) (n : Int) (ts : List Tie) (B : Hp) : Prop := ∃ dx fs t nr, B p = some (.ins C dx fs) ∧ fs.lookup ("ties" : Str) = some t ∧ Dq K B t (.tuple (ts.map tieD)) ∧ fs.lookup ("near" : Str) = some nr ∧ Dq K B nr (nearN n ts) ∧
  fs.lookup ("amounts" : Str) = some (.ref A) ∧ ∀ m : Str, ¬ m = "ties" → ¬ m = "near" → ¬ m = "amounts" → fs.lookup m = none
section
variable {K : PySem.W.Frag} {σ : L2.St} {B B' H : Hp} {S : List Addr} {C p A L pa : Addr} {n : Int} {ts : List Tie} {am : List Int} {tA : TA} {D : Ends}
theorem FlowObj.mono (h : FlowObj K C p A n ts B) (e : Ex B B') : FlowObj K C p A n ts B' := by
  obtain ⟨dx, fs, t, nr, h1, h2, h3, h4, h5, h6, h7⟩ := h
  exact ⟨dx, fs, t, nr, e _ _ h1, h2, Dq.mono e h3, h4, Dq.mono e h5, h6, h7⟩
theorem FlowObj.ne (h : FlowObj K C p A n ts B) {a : Addr} (ha : B a = none) : p ≠ a := by
  obtain ⟨dx, fs, t, nr, h1, _⟩ := h
  exact ne_of_none h1 ha
/-- self.near[x[i]].append((number, x[j])) -/
theorem near_app {dx : Addr} {fs : List (Str × V)} {ps : List Addr} {ta : Addr} {ys xs : List V} {num cx cy ka : Int} {vb : V} (h0 : σ[0]? = some (some (.ref p))) (h2 : σ[2]? = some (some (.int num))) (h3 : σ[3]? = some (some (.ref ta))) (hp : H p = some (.ins C dx fs)) (c : Cls K C) (nn : NoAttr K C "near") (lk : fs.lookup ("near" : Str) = some (.ref L))
    (ht : H ta = some (.tup xs)) (hx : atI xs cx = some (.int ka)) (hy : atI xs cy = some vb) (hL : H L = some (.lst (ps.map V.ref))) (hat : atI (ps.map V.ref) ka = some (.ref pa)) (hpa : H pa = some (.lst ys)) (hl : ys.length ≤ 40000)
    (q : ∀ r, H r = none → D.nx σ (upd (upd H r (.tup [.int num, vb])) pa (.lst (ys ++ [.ref r])))) :
    tDrop (tBM K "list" rAppend (tOp (rIxL K) (tFld K (tVar 0) "near") (tOp (rIxT K) (tVar 3) (tC (.int cx)))) (tCons (tTup (tCons (tVar 2) (tCons (tOp (rIxT K) (tVar 3) (tC (.int cy))) tNil))) tNil)) D σ H :=
  ⟨_, h0, p, C, dx, fs, _, rfl, hp, c, nn, lk, _, h3, ta, xs, cx, _, rfl, rfl, st_of ht, hx, L, _, ka, _, rfl, rfl, sq_of hL, hat, .inl ⟨rfl, _, sq_of hpa⟩, _, h2, _, h3, ta, xs, cy, vb, rfl, rfl, st_of ht, hy, Nat.le_of_ble_eq_true rfl, fun r hr =>
    ⟨pa, ys, .ref r, rfl, rfl, by rw [upd_ne (ne_of_none hpa hr)]; exact hpa, sz_lt (by omega), q r hr⟩⟩
end
/-! ### what its methods promise -/
def spRoom (K : PySem.W.Frag) (C : Addr) : Sp := fun vs H Q _ => ∃ (S : List Addr) (B : Hp) (p A : Addr) (n : Int) (ts : List Tie) (am : List Int) (i : Nat) (x : Int), vs = [.ref p, .int (i : Int), .int x] ∧ Wd S B H ∧ FlowObj K C p A n ts B ∧ B A = some (.lst (am.map V.int)) ∧ i < ts.length ∧ am.length = ts.length ∧
  ∀ H', Ex H H' → Q (.int (roomF ts am i x)) H'
def spAdd (K : PySem.W.Frag) (C : Addr) : Sp := fun vs H Q _ => ∃ (S : List Addr) (B : Hp) (p A : Addr) (n : Int) (ts : List Tie) (am : List Int) (i : Nat) (x m : Int), vs = [.ref p, .int (i : Int), .int x, .int m] ∧ Wd S B H ∧ A ∈ S ∧ FlowObj K C p A n ts B ∧ H A = some (.lst (am.map V.int)) ∧ i < ts.length ∧ am.length = ts.length ∧
  ∀ H', Xs [A] H H' → H' A = some (.lst ((addF ts am i x m).map V.int)) → Q .non H'
def oD : Option (Nat × Int) → PyData
  | none => .none
  | some e => eN e
def CameAt (K : PySem.W.Frag) (B : Hp) (kvs : List (Key × V)) (c : Came) : Prop := kvs.map (·.1) = (keysC c).map Sum.inl ∧ DqAll K B (kvs.map (·.2)) (c.map fun e => oD e.2)
def spWaysOn (K : PySem.W.Frag) (C : Addr) : Sp := fun vs H Q _ => ∃ (S : List Addr) (B : Hp) (p A : Addr) (n : Int) (ts : List Tie) (am : List Int) (t : Bool) (src : List Int) (v : V), vs = [.ref p, v] ∧ Wd S B H ∧ FlowObj K C p A n ts B ∧ B A = some (.lst (am.map V.int)) ∧ am.length = ts.length ∧ TiesIn n ts ∧ n ≤ 60 ∧ ts.length ≤ 1000 ∧
  Dq K B v (seqD t (src.map .int)) ∧ src.Nodup ∧ (∀ s ∈ src, 0 ≤ s ∧ s < n) ∧ ∀ d B' H' kvs, H d = none → Ex H H' → Ex B B' → Wd (d :: S) B' H' → H' d = some (.dK kvs) → CameAt K B' kvs (bfs0 n ts src am) → Q (.ref d) H'
def spWaysBack (K : PySem.W.Frag) (C : Addr) : Sp := fun vs H Q _ => ∃ (S : List Addr) (B : Hp) (p A : Addr) (n : Int) (ts : List Tie) (am : List Int) (t : Bool) (snk : List Int) (v : V), vs = [.ref p, v] ∧ Wd S B H ∧ FlowObj K C p A n ts B ∧ B A = some (.lst (am.map V.int)) ∧ am.length = ts.length ∧ TiesIn n ts ∧ n ≤ 60 ∧ ts.length ≤ 1000 ∧
  Dq K B v (seqD t (snk.map .int)) ∧ snk.Nodup ∧ (∀ s ∈ snk, 0 ≤ s ∧ s < n) ∧ ∀ a H' L, H a = none → Ex H H' → BackTo n ts am snk L → L.Pairwise (· < ·) → H' a = some (.lst (L.map V.int)) → Q (.ref a) H'
def spBring (K : PySem.W.Frag) (C : Addr) : Sp := fun vs H Q _ => ∃ (S : List Addr) (B : Hp) (p A d : Addr) (n : Int) (ts : List Tie) (src am : List Int) (kvs : List (Key × V)) (c : Came) (q' : Int), vs = [.ref p, .ref d, .int q'] ∧ Wd S B H ∧ A ∈ S ∧ FlowObj K C p A n ts B ∧ H A = some (.lst (am.map V.int)) ∧ am.length = ts.length ∧ TiesIn n ts ∧
  n ≤ 60 ∧ ts.length ≤ 1000 ∧ B d = some (.dK kvs) ∧ CameAt K B kvs c ∧ CameOk n ts am src c ∧ q' ∈ keysC c ∧ wayTo c q' ≠ [] ∧ ∀ H', Xs [A] H H' → H' A = some (.lst ((moreF ts am c q').map V.int)) → Q .non H'
def spFill (K : PySem.W.Frag) (C : Addr) : Sp := fun vs H Q _ => ∃ (S : List Addr) (B : Hp) (p A : Addr) (n : Int) (ts : List Tie) (am am' : List Int) (t1 t2 : Bool) (src snk : List Int) (v1 v2 : V), vs = [.ref p, v1, v2] ∧ Wd (A :: S) B H ∧ A ∉ S ∧ FlowObj K C p A n ts B ∧ H A = some (.lst (am.map V.int)) ∧ TiesIn n ts ∧ n ≤ 60 ∧ ts.length ≤ 1000 ∧
  Dq K B v1 (seqD t1 (src.map .int)) ∧ Dq K B v2 (seqD t2 (snk.map .int)) ∧ Ends2 n src snk ∧ Feas ts am ∧ Kept ts am src snk ∧ Fill n ts src snk am am' ∧
  ∀ L H', H L = none → Xs [A] H H' → H' A = some (.lst (am'.map V.int)) → L ≠ A → H' L = some (.lst ((srt (keysC (bfs0 n ts src am'))).map V.int)) → Q (.ref L) H'
def spFlowInit (K : PySem.W.Frag) (C : Addr) : Sp := fun vs H Q _ => ∃ (S : List Addr) (B : Hp) (p dx : Addr) (n : Int) (ts : List Tie) (v : V), vs = [.ref p, v] ∧ Wd (p :: S) B H ∧ p ∉ S ∧ H p = some (.ins C dx []) ∧ Dq K B v (webD n ts) ∧ 0 ≤ n ∧ n ≤ 1000 ∧ TiesIn n ts ∧ ts.length ≤ 1000 ∧
  ∀ A B' H', H A = none → Xs [p] H H' → Ex B B' → Wd (A :: S) B' H' → FlowObj K C p A n ts B' → H' A = some (.lst ((noAm ts).map V.int)) → Q .non H'
/-! ### dicts of places as they are made, put to, looked up -/
theorem put_new {κ : Type} [DecidableEq κ] {kvs : List (κ × V)} {k : κ} {v : V} (h : ¬ k ∈ kvs.map (·.1)) : putK kvs k v = kvs ++ [(k, v)] := by
  unfold putK
  rw [if_neg]
  intro q
  obtain ⟨x, hx, e⟩ := List.any_eq_true.mp q
  exact h (List.mem_map.mpr ⟨x, hx, of_decide_eq_true e⟩)
theorem merge_new : ∀ (kvs acc : List (Key × V)), ((acc ++ kvs).map (·.1)).Nodup → mergeK acc kvs = acc ++ kvs
  | [], acc, _ => by
    show acc = acc ++ []
    rw [List.append_nil]
  | p :: r, acc, h => by
    have e : putK acc p.1 p.2 = acc ++ [p] := put_new fun z => by
      rw [List.map_append, List.map_cons, List.nodup_append] at h
      exact h.2.2 p.1 z p.1 List.mem_cons_self rfl
    show mergeK (putK acc p.1 p.2) r = _
    rw [e, merge_new r (acc ++ [p]) (by rw [List.append_assoc]; exact h), List.append_assoc]
    rfl
section
variable {K : PySem.W.Frag} {σ : L2.St} {B B' H : Hp} {S : List Addr} {te ta : TE}
theorem pairs_vals {f : Int → PyData} : ∀ {ks : List Int} {xs : List V}, DqAll K B xs (ks.map fun k => .tuple [.int k, f k]) →
    ∃ (ps : List Addr) (kvs : List (Key × V)), xs = ps.map V.ref ∧ Paired (fun p kv => SqT K B p [kV kv.1, kv.2]) ps kvs ∧ kvs.map (·.1) = ks.map Sum.inl ∧ DqAll K B (kvs.map (·.2)) (ks.map f)
  | [], _, h => by cases h; exact ⟨[], [], rfl, .nil, rfl, .nil⟩
  | k :: ks, _, h => by
    cases h with
    | cons h1 h2 =>
    obtain ⟨ps, kvs, rfl, h3, h4, h5⟩ := pairs_vals h2
    cases h1 with
    | @tup a ys _ hs hd =>
    obtain ⟨y1, y2, rfl, q1, q2⟩ := two_args hd
    cases q1
    exact ⟨a :: ps, (.inl k, y2) :: kvs, rfl, .cons (st_of hs) h3, by rw [List.map_cons, List.map_cons, h4], .cons q2 h5⟩
theorem dnew {ks : List Int} {f : Int → PyData} (hn : ks.Nodup) (h : EvD K ta σ B (.list (ks.map fun k => .tuple [.int k, f k]))) (w : Wd S B H) {Q : VK}
    (q : ∀ d B' H' kvs, H d = none → Ex H H' → Ex B B' → Wd S B' H' → H' d = none → kvs.map (·.1) = ks.map Sum.inl → DqAll K B' (kvs.map (·.2)) (ks.map f) → Q (.ref d) (upd H' d (.dK kvs))) : tCB (rDictP K) (tCons ta tNil) σ H Q :=
  (ea_cons h ea_nil).bind w fun vs B1 H1 e1 eB1 w1 rs => by
    cases rs with
    | cons r1 r2 =>
    cases r2
    cases r1 with
    | @lst a xs _ hs hd =>
    obtain ⟨ps, kvs, rfl, hp, hk, hv⟩ := pairs_vals hd
    refine ⟨a, ps, kvs, rfl, ex_l w1.ex hs, paired_mono w1.ex hp, fun d hd => ?_⟩
    rw [merge_new kvs [] (by
      rw [List.nil_append, hk]
      exact List.pairwise_map.mpr (hn.imp fun {a b} h e => h (Sum.inl.inj e))), List.nil_append]
    exact q d B1 H1 kvs (fresh_back e1 hd) e1 eB1 w1 hd hk hv
theorem CameAt.mono {kvs : List (Key × V)} {c : Came} (h : CameAt K B kvs c) (e : Ex B B') : CameAt K B' kvs c := ⟨h.1, DqAll.mono e h.2⟩
theorem CameAt.has {kvs : List (Key × V)} {c : Came} (h : CameAt K B kvs c) (q : Int) : (valV kvs (.inl q)).isSome = decide (q ∈ keysC c) := by
  rw [Bool.eq_iff_iff, isSome_iff, h.1, List.mem_map, decide_eq_true_iff]
  exact ⟨fun ⟨x, hx, e⟩ => Sum.inl.inj e ▸ hx, fun hq => ⟨q, hq, rfl⟩⟩
theorem CameAt.put {kvs : List (Key × V)} {c : Came} (h : CameAt K B kvs c) {q : Int} (hq : q ∉ keysC c) {v : V} {e : Nat × Int} (hv : Dq K B v (eN e)) : CameAt K B (putK kvs (.inl q) v) (c ++ [(q, some e)]) := by
  rw [put_new (fun z => by
    rw [h.1] at z
    obtain ⟨x, hx, e⟩ := List.mem_map.mp z
    exact hq (Sum.inl.inj e ▸ hx))]
  unfold keysC CameAt at *
  constructor
  · rw [List.map_append, h.1]
    unfold keysC
    rw [List.map_append, List.map_append]
    rfl
  · rw [List.map_append, List.map_append]
    exact DqAll.snoc h.2 hv
theorem CameAt.few {kvs : List (Key × V)} {c : Came} (h : CameAt K B kvs c) : kvs.length = c.length := by
  have := congrArg List.length h.1
  unfold keysC at this
  simpa using this
theorem came_get : ∀ {kvs : List (Key × V)} {c : Came}, CameAt K B kvs c → ∀ {q : Int}, q ∈ keysC c → ∃ v, valV kvs (.inl q) = some v ∧ Dq K B v (oD (lookC c q))
  | [], [], _, q, hq => by cases hq
  | [], _ :: _, h, _, _ => by
    have := h.few
    simp at this
  | _ :: _, [], h, _, _ => by
    have := h.few
    simp at this
  | kv :: kvs, x :: c, h, q, hq => by
    obtain ⟨h1, h2⟩ := h
    unfold keysC at h1 hq
    rw [List.map_cons, List.map_cons, List.map_cons, List.cons.injEq] at h1
    rw [List.map_cons, List.map_cons] at h2
    cases h2 with
    | cons h3 h4 =>
    by_cases e : x.1 = q
    · refine ⟨kv.2, valV_pos (by rw [h1.1, e]), ?_⟩
      unfold lookC
      rw [List.find?_cons_of_pos (by simpa using e)]
      exact h3
    · rw [List.map_cons] at hq
      have hq2 : q ∈ keysC c := (List.mem_cons.mp hq).elim (fun z => absurd z.symm e) id
      obtain ⟨v, g1, g2⟩ := came_get (kvs := kvs) (c := c) ⟨h1.2, h4⟩ hq2
      refine ⟨v, by rw [valV_neg (by rw [h1.1]; exact fun z => e (Sum.inl.inj z))]; exact g1, ?_⟩
      unfold lookC at g2 ⊢
      rw [List.find?_cons_of_neg (by simpa using e)]
      exact g2
/-- what was told stays told when lists come to be one's own -/
theorem st_c {D : Ends} {i : Nat} {v : V} (h : D.nx (σ.set i (some v)) H) : tAsg (tC v) (gName i) D σ H := h
theorem bfs_end {ts : List Tie} {am : List Int} {c : Came} {at' : Nat} (h : c.length ≤ at') : ∀ k, bfs ts am k c at' = c
  | 0 => rfl
  | k + 1 => by
    unfold bfs
    rw [List.getElem?_eq_none_iff.mpr h]
theorem bfs_step {ts : List Tie} {am : List Int} {c : Came} {at' k : Nat} {x : Int × Option (Nat × Int)} (h : c[at']? = some x) : bfs ts am (k + 1) c at' = bfs ts am k ((nbN ts x.1).foldl (grow ts am x.1) c) (at' + 1) := by
  show (match c[at']? with | none => c | some x => bfs ts am k ((nbN ts x.1).foldl (grow ts am x.1) c) (at' + 1)) = _
  rw [h]
theorem opt_move {T : List Addr} {v : V} {o : Option (Nat × Int)} (h : Dq K B v (oD o)) (e : Ex B H) (hT : ∀ a ∈ T, B a = none ∨ ∃ xs, B a = some (.lst xs)) : Dq K (mi H T) v (oD o) := by
  cases o with
  | none =>
    cases h
    exact .non
  | some s =>
    cases h with
    | @tup a xs _ h1 h2 =>
      have hx := DqAll.ints_eq (ns := [(s.1 : Int), s.2]) h2
      subst hx
      have hm : a ∉ T := fun m => by rcases hT a m with z | ⟨ys, z⟩ <;> rw [z] at h1 <;> cases h1
      exact .tup (by rw [mi_at hm]; exact e _ _ h1) DqAll.ints
theorem came_move {T : List Addr} : ∀ {vs : List V} {c : Came}, DqAll K B vs (c.map fun e => oD e.2) → Ex B H → (∀ a ∈ T, B a = none ∨ ∃ xs, B a = some (.lst xs)) → DqAll K (mi H T) vs (c.map fun e => oD e.2)
  | [], [], _, _, _ => .nil
  | [], _ :: _, h, _, _ => by cases h
  | _ :: _, [], h, _, _ => by cases h
  | v :: vs, x :: c, h, e, hT => by
    cases h with
    | cons h1 h2 => exact .cons (opt_move h1 e hT) (came_move h2 e hT)
end
end Pw

/-! ## PwBack -/
namespace Pw
open PySem L2 Evl

/-! ### looks backwards, on the way -/
structure BackW (n : Int) (ts : List Tie) (am snk ks ws : List Int) : Prop where
  nd : ks.Nodup
  rng : ∀ p ∈ ks, 0 ≤ p ∧ p < n
  all : ∀ s ∈ snk, s ∈ ks
  sub : ∀ x ∈ ws, x ∈ ks
  least : ∀ Y : List Int, (∀ s ∈ snk, s ∈ Y) → (∀ q ∈ Y, ∀ p, Res ts am p q → p ∈ Y) → ∀ p ∈ ks, p ∈ Y
  back : ∀ q ∈ ks, q ∉ ws → ∀ p, Res ts am p q → p ∈ ks
structure BackI (n : Int) (ts : List Tie) (am snk : List Int) (here : Int) (done : List (Nat × Int)) (ks ws : List Int) : Prop where
  nd : ks.Nodup
  rng : ∀ p ∈ ks, 0 ≤ p ∧ p < n
  all : ∀ s ∈ snk, s ∈ ks
  sub : ∀ x ∈ ws, x ∈ ks
  least : ∀ Y : List Int, (∀ s ∈ snk, s ∈ Y) → (∀ q ∈ Y, ∀ p, Res ts am p q → p ∈ Y) → ∀ p ∈ ks, p ∈ Y
  back : ∀ q ∈ ks, q ∉ ws → q ≠ here → ∀ p, Res ts am p q → p ∈ ks
  at_ : here ∈ ks
  seen : ∀ e ∈ done, 0 < roomF ts am e.1 e.2 → e.2 ∈ ks
section
variable {n : Int} {ts : List Tie} {am snk ks ws : List Int} {here : Int} {done : List (Nat × Int)}
theorem BackW.pop {x : Int} (h : BackW n ts am snk ks (ws ++ [x])) : BackI n ts am snk x [] ks ws :=
  ⟨h.nd, h.rng, h.all, fun y hy => h.sub y (List.mem_append_left _ hy), h.least, fun q hq hw hx p hr => h.back q hq (fun m => (List.mem_append.mp m).elim hw fun z => hx (List.mem_singleton.mp z)) p hr, h.sub x (List.mem_append_right _ (List.mem_singleton.mpr rfl)), fun e he => by cases he⟩
theorem BackI.old {e : Nat × Int} (h : BackI n ts am snk here done ks ws) (he : 0 < roomF ts am e.1 e.2 → e.2 ∈ ks) : BackI n ts am snk here (done ++ [e]) ks ws :=
  ⟨h.nd, h.rng, h.all, h.sub, h.least, h.back, h.at_, fun x hx => (List.mem_append.mp hx).elim (h.seen x) fun z => by rw [List.mem_singleton.mp z]; exact he⟩
theorem BackI.new (hin : TiesIn n ts) {e : Nat × Int} (h : BackI n ts am snk here done ks ws) (hl : Link ts e.1 here e.2) (hr : 0 < roomF ts am e.1 e.2) (hq : e.2 ∉ ks) : BackI n ts am snk here (done ++ [e]) (ks ++ [e.2]) (ws ++ [e.2]) := by
  refine ⟨?_, fun p hp => ?_, fun s hs => List.mem_append_left _ (h.all s hs), fun x hx => ?_, fun Y h1 h2 p hp => ?_, fun q hq' hw hx p hres => ?_, List.mem_append_left _ h.at_, fun x hx hrr => ?_⟩
  · rw [List.nodup_append]
    exact ⟨h.nd, by simp, fun a ha b hb z => hq (by rw [← List.mem_singleton.mp hb, ← z]; exact ha)⟩
  · rcases List.mem_append.mp hp with hp | hp
    · exact h.rng p hp
    · rw [List.mem_singleton.mp hp]
      exact (hl.rng hin).2.1
  · rcases List.mem_append.mp hx with hx | hx
    · exact List.mem_append_left _ (h.sub x hx)
    · exact List.mem_append_right _ hx
  · rcases List.mem_append.mp hp with hp | hp
    · exact h.least Y h1 h2 p hp
    · rw [List.mem_singleton.mp hp]
      exact h2 here (h.least Y h1 h2 here h.at_) e.2 ⟨e.1, hl.flip, hr⟩
  · rcases List.mem_append.mp hq' with hq' | hq'
    · exact List.mem_append_left _ (h.back q hq' (fun z => hw (List.mem_append_left _ z)) hx p hres)
    · exact absurd (List.mem_append_right _ hq') hw
  · rcases List.mem_append.mp hx with hx | hx
    · exact List.mem_append_left _ (h.seen x hx hrr)
    · rw [List.mem_singleton.mp hx]
      exact List.mem_append_right _ (List.mem_singleton.mpr rfl)
theorem BackI.end_ (h : BackI n ts am snk here (nbN ts here) ks ws) : BackW n ts am snk ks ws :=
  ⟨h.nd, h.rng, h.all, h.sub, h.least, fun q hq hw p hr => by
    by_cases z : q = here
    · subst z
      obtain ⟨i, hl, hrr⟩ := hr
      exact h.seen (i, p) (nbN_mem.mpr hl.flip) hrr
    · exact h.back q hq hw z p hr⟩
theorem BackW.fin (h : BackW n ts am snk ks []) {ys : List Int} (hp : ys.Perm ks) (hs : ys.Pairwise (· ≤ ·)) : BackTo n ts am snk ys ∧ ys.Pairwise (· < ·) :=
  ⟨⟨hp.nodup_iff.mpr h.nd, fun p hq => h.rng p (hp.mem_iff.mp hq), fun s hs' => hp.mem_iff.mpr (h.all s hs'), fun q hq p hr => hp.mem_iff.mpr (h.back q (hp.mem_iff.mp hq) (fun z => by cases z) p hr), fun Y h1 h2 p hq => h.least Y h1 h2 p (hp.mem_iff.mp hq)⟩, sorted_of hp hs h.nd⟩
end
section
variable {K : PySem.W.Frag} {σ : L2.St} {B H : Hp} {S : List Addr} {d : Addr} {tt : TT} {te : TE}
theorem wk_keys {i : Nat} {o : Obj} {kvs : List (Key × V)} {ks : List Int} (hi : σ[i]? = some (some (.ref d))) (hd : B d = some (.frz o (.dK kvs))) (hk : kvs.map (·.1) = ks.map Sum.inl) : WkD K (iKeys (tVar i)) σ B (ks.map .int) := fun S H w R k => by
  have hl : (ks.map PyData.int).length = kvs.length := by
    have := congrArg List.length hk
    simpa using this.symm
  refine ⟨_, hi, d, o, rfl, .inl ⟨kvs, w.ex _ _ hd, k _ B H (Ex.refl H) (Ex.refl B) w (fun j H' e hj => ⟨e _ _ hd, by omega⟩) (fun j H' e hj => ⟨e _ _ hd, by omega⟩) fun j S' B' H' x H'' eB w' hj y => ?_⟩⟩
  obtain ⟨rfl, kk, v, h1, rfl⟩ := y
  have h2 : (ks.map Sum.inl)[j]? = some kk := by rw [← hk, List.getElem?_map, h1]; rfl
  rw [List.getElem?_map] at h2
  obtain ⟨z, h3, rfl⟩ := Option.map_eq_some_iff.mp h2
  exact ⟨B', Ex.refl _, Ex.refl _, w', .int z, by rw [List.getElem?_map, h3]; rfl, .int z⟩
/-- [x for x in d if t], d a dict of one's own -/
theorem lock_core {i j : Nat} {od : Obj} {vs : List Nat} {kvs : List (Key × V)} {ks : List Int} (f : Int → Bool) (w : Wd (d :: S) B H) (hdS : d ∉ S) (hd : H d = some (.dK kvs)) (hk : kvs.map (·.1) = ks.map Sum.inl) (hl : ks.length ≤ 40000) (hi : σ[i]? = some (some (.ref d)))
    (turn : ∀ B2, Ex B B2 → ∀ a ∈ ks, TurnLc K (gName j) tt te σ vs B2 (.int a) (f a) (.int a)) {Q : VK}
    (q : ∀ a B' H', H a = none → Xs [d] H H' → H' d = some (.dK kvs) → Ex B B' → Wd (a :: d :: S) B' H' → a ≠ d → H' a = some (.lst ((ks.filter f).map V.int)) → Q (.ref a) H') : tLc (iKeys (tVar i)) (gName j) tt te vs σ (upd H d (.frz od (.dK kvs))) fun v H' => H' d = some (.frz od (.dK kvs)) ∧ Q v (upd H' d (.dK kvs)) := by
  have w1 := w.put (p := d) (o := .frz od (.dK kvs)) List.mem_cons_self
  have hd1 : upd H d (.frz od (.dK kvs)) d = some (.frz od (.dK kvs)) := upd_same
  have w2 := w1.give hd1 hdS
  have eB2 : Ex B (upd B d (.frz od (.dK kvs))) := w1.giveE
  refine lc_ownP (K := K) ks PyData.int f PyData.int (wk_keys hi upd_same hk) hl (turn _ eB2) w2 fun a xs B3 H3 ha e3 eB3 w3 hA hx => ?_
  have hxs := DqAll.ints_eq hx
  subst hxs
  have hd3 := e3 _ _ hd1
  have nad : a ≠ d := fun z => by rw [z, hd1] at ha; cases ha
  refine ⟨hd3, ?_⟩
  have haH : H a = none := by
    rw [upd_ne nad] at ha
    exact ha
  have wN : Wd (a :: d :: S) (mi (upd H3 d (.dK kvs)) (a :: d :: S)) (upd H3 d (.dK kvs)) := ⟨mi_ex, fun s m => mi_no m, fun s m => by
    by_cases z : s = d
    · rw [z]; exact ⟨_, upd_same⟩
    · rw [upd_ne z]
      refine w3.at_ s ?_
      rcases List.mem_cons.mp m with rfl | m
      · exact List.mem_cons_self
      · rcases List.mem_cons.mp m with m | m
        · exact absurd m z
        · exact List.mem_cons_of_mem _ m⟩
  refine q a _ _ haH (fun b o hb ho => ?_) upd_same (ex_mi (fun b o ho => ?_) fun s m => ?_) wN nad (by rw [upd_ne nad]; exact hA)
  · have hbd : b ≠ d := fun z => hb (List.mem_singleton.mpr z)
    rw [upd_ne hbd]
    exact e3 _ _ (by rw [upd_ne hbd]; exact ho)
  · have hbd : b ≠ d := fun z => by rw [z, w.no d List.mem_cons_self] at ho; cases ho
    rw [upd_ne hbd]
    exact w3.ex _ _ (eB3 _ _ (eB2 _ _ ho))
  · rcases List.mem_cons.mp m with rfl | m
    · exact fresh_back (eB2.trans eB3) (w3.no s List.mem_cons_self)
    · exact w.no s m
theorem lock_set {i j r : Nat} {D : Ends} {vs : List Nat} {kvs : List (Key × V)} {ks : List Int} (f : Int → Bool) (w : Wd (d :: S) B H) (hdS : d ∉ S) (hd : H d = some (.dK kvs)) (hk : kvs.map (·.1) = ks.map Sum.inl) (hl : ks.length ≤ 40000) (hi : σ[i]? = some (some (.ref d)))
    (turn : ∀ B2, Ex B B2 → ∀ a ∈ ks, TurnLc K (gName j) tt te σ vs B2 (.int a) (f a) (.int a))
    (q : ∀ a B' H', H a = none → Xs [d] H H' → H' d = some (.dK kvs) → Ex B B' → Wd (a :: d :: S) B' H' → a ≠ d → H' a = some (.lst ((ks.filter f).map V.int)) → D.nx (σ.set r (some (.ref a))) H') : tLock (tAsg (tLc (iKeys (tVar i)) (gName j) tt te vs) (gName r)) D σ H :=
  ⟨d, .dK kvs, hd, trivial, fun od => lock_core (K := K) (Q := fun v H' => D.nx (σ.set r (some v)) H') f w hdS hd hk hl hi turn q⟩
end
theorem Wd.xsA {S : List Addr} {B H H' : Hp} {A : Addr} (w : Wd S B H) (hA : A ∈ S) (x : Xs [A] H H') (h : ∃ o, H' A = some o) : Wd S B H' :=
  ⟨fun a o e => x a o (fun z => by rw [List.mem_singleton.mp z, w.no A hA] at e; cases e) (w.ex a o e), w.no, fun s m => by
    by_cases z : s = A
    · rw [z]; exact h
    · obtain ⟨o, ho⟩ := w.at_ s m
      exact ⟨o, x s o (fun y => z (List.mem_singleton.mp y)) ho⟩⟩
theorem wd_all (H : Hp) : Wd [] H H := ⟨Ex.refl H, (fun s m => by cases m), fun s m => by cases m⟩
section
variable {K : PySem.W.Frag} {σ : L2.St} {B H : Hp} {S : List Addr} {te : TE}
theorem ev_minL {ns : List Int} (h : EvD K te σ B (.list (ns.map .int))) (hn : ns ≠ []) : EvD K (tCB (rMin K) (tCons te tNil)) σ B (.int (leastL ns)) :=
  ev_cb (ea_cons h ea_nil) (fun vs B' H' Q hv e q => by
    cases hv with
    | cons g1 g2 =>
      cases g2
      cases g1 with
      | lst hs hd =>
        have e2 := DqAll.ints_eq hd
        subst e2
        refine ⟨_, ns, rfl, ex_l e hs, List.length_pos_iff.mpr hn, fun m' i1 i2 => ?_⟩
        obtain ⟨l1, l2⟩ := leastL_ok hn
        rw [show m' = leastL ns from Int.le_antisymm (i2 _ l1) (l2 _ i1)]
        exact q _ (.int _)) stays_dp
/-- a look from the sources, the amounts one's own -/
theorem ev_ways {C p A : Addr} {n : Int} {ts : List Tie} {am src : List Int} {t : Bool} {v : V} {i j : Nat} (w : Wd (A :: S) B H) (hAS : A ∉ S) (hf : FlowObj K C p A n ts B) (hA : H A = some (.lst (am.map V.int))) (hal : am.length = ts.length) (hin : TiesIn n ts) (hn : n ≤ 60) (htl : ts.length ≤ 1000)
    (hv : Dq K B v (seqD t (src.map .int))) (hnd : src.Nodup) (hrng : ∀ s ∈ src, 0 ≤ s ∧ s < n) (hi : σ[i]? = some (some (.ref p))) (hj : σ[j]? = some (some v)) {Q : VK}
    (q : ∀ d B' H' kvs, H d = none → Ex H H' → Ex B B' → Wd (d :: A :: S) B' H' → H' A = some (.lst (am.map V.int)) → H' d = some (.dK kvs) → CameAt K B' kvs (bfs0 n ts src am) → Q (.ref d) H') : tMeth C "ways_on" (spWaysOn K C) [] E0 (tVar i) (tCons (tVar j) tNil) σ H Q := by
  obtain ⟨dx, fs, tv, nr, g1, g2, g3, g4, g5, g6, g7⟩ := id hf
  have wg := w.give hA hAS
  have eg : Ex B (upd B A (.lst (am.map V.int))) := w.giveE
  refine ⟨_, hi, p, dx, fs, rfl, w.ex _ _ g1, g7 _ (by decide +kernel) (by decide +kernel) (by decide +kernel), _, hj, S, _, p, A, n, ts, am, t, src, v, rfl, wg, hf.mono eg, upd_same, hal, hin, hn, htl, Dq.mono eg hv, hnd, hrng, fun d B2 H2 kvs hd e2 eB2 w2 hd2 hC => ?_⟩
  have hA2 := eB2 _ _ (upd_same (H := B) (a := A) (o := .lst (am.map V.int)))
  have hAH := e2 _ _ hA
  have wN : Wd (d :: A :: S) (mi H2 (d :: A :: S)) H2 := ⟨mi_ex, fun s m => mi_no m, fun s m => by
    rcases List.mem_cons.mp m with rfl | m
    · exact ⟨_, hd2⟩
    · rcases List.mem_cons.mp m with rfl | m
      · exact ⟨_, hAH⟩
      · exact w2.at_ s (List.mem_cons_of_mem _ m)⟩
  refine q d _ H2 kvs hd e2 (ex_mi (fun a o h => w2.ex _ _ (eB2 _ _ (eg _ _ h))) fun s m => ?_) wN hAH hd2 ⟨hC.1, came_move hC.2 w2.ex fun a m => ?_⟩
  · rcases List.mem_cons.mp m with rfl | m
    · exact fresh_back w.ex hd
    · exact w.no s m
  · rcases List.mem_cons.mp m with rfl | m
    · exact .inl (w2.no a List.mem_cons_self)
    · rcases List.mem_cons.mp m with rfl | m
      · exact .inr ⟨_, hA2⟩
      · exact .inl (w2.no a (List.mem_cons_of_mem _ m))
end
noncomputable def backL (n : Int) (ts : List Tie) (am snk : List Int) : List Int := (rngI 0 n.toNat).filter fun p => @decide (∀ Y : List Int, (∀ s ∈ snk, s ∈ Y) → (∀ q ∈ Y, ∀ r, Res ts am r q → r ∈ Y) → p ∈ Y) (Classical.propDecidable _)
theorem backL_mem {n : Int} {ts : List Tie} {am snk : List Int} {p : Int} : p ∈ backL n ts am snk ↔ (0 ≤ p ∧ p < n) ∧ ∀ Y : List Int, (∀ s ∈ snk, s ∈ Y) → (∀ q ∈ Y, ∀ r, Res ts am r q → r ∈ Y) → p ∈ Y := by
  unfold backL
  rw [List.mem_filter, rngI_mem, @decide_eq_true_iff _ (Classical.propDecidable _)]
  constructor
  · exact fun ⟨h1, h2⟩ => ⟨by omega, h2⟩
  · exact fun ⟨h1, h2⟩ => ⟨by omega, h2⟩
theorem backL_ok {n : Int} {ts : List Tie} {am snk : List Int} (hin : TiesIn n ts) (hr : ∀ s ∈ snk, 0 ≤ s ∧ s < n) : BackTo n ts am snk (backL n ts am snk) ∧ (backL n ts am snk).Pairwise (· < ·) :=
  ⟨⟨(rngI_nd _ _).filter _, fun p hp => (backL_mem.mp hp).1, fun s hs => backL_mem.mpr ⟨hr s hs, fun Y h1 _ => h1 s hs⟩, fun q hq p h => backL_mem.mpr ⟨(res_in hin h).1, fun Y h1 h2 => h2 q ((backL_mem.mp hq).2 Y h1 h2) p h⟩, fun Y h1 h2 p hp => (backL_mem.mp hp).2 Y h1 h2⟩, (rngI_lt _ _).filter _⟩
theorem ev_back {K : PySem.W.Frag} {σ : L2.St} {B : Hp} {C p A : Addr} {n : Int} {ts : List Tie} {am snk : List Int} {t : Bool} {v : V} {i j : Nat} (hf : FlowObj K C p A n ts B) (hA : B A = some (.lst (am.map V.int))) (hal : am.length = ts.length) (hin : TiesIn n ts) (hn : n ≤ 60) (htl : ts.length ≤ 1000)
    (hv : Dq K B v (seqD t (snk.map .int))) (hnd : snk.Nodup) (hrng : ∀ s ∈ snk, 0 ≤ s ∧ s < n) (hi : σ[i]? = some (some (.ref p))) (hj : σ[j]? = some (some v)) :
    EvD K (tMeth C "ways_back" (spWaysBack K C) [] E0 (tVar i) (tCons (tVar j) tNil)) σ B (.list ((backL n ts am snk).map .int)) := by
  obtain ⟨dx, fs, tv, nr, g1, g2, g3, g4, g5, g6, g7⟩ := id hf
  refine ev_meth (ev_varV hi) g1 (g7 _ (by decide +kernel) (by decide +kernel) (by decide +kernel)) (ea_cons (ev_var (v := v) hj hv) ea_nil) stays_dp fun S B' H' vs Q eB w rs q => ?_
  cases rs with
  | @cons u _ _ _ r1 r2 =>
  cases r2
  refine ⟨S, B', p, A, n, ts, am, t, snk, u, rfl, w, hf.mono eB, eB _ _ hA, hal, hin, hn, htl, r1, hnd, hrng, fun a H2 L ha e2 hb hs hL => ?_⟩
  have eL : L = backL n ts am snk := sorted_eq hs (backL_ok hin hrng).2 (hb.one (backL_ok hin hrng).1)
  subst eL
  exact q (.ref a) (mi H2 S) H2 e2 (w.stepE e2) (w.step e2) (.lst (sq_of (by rw [mi_at (w.nin ha)]; exact hL)) DqAll.ints)
/-- a world with a list more, made by one who had changed A -/
theorem Wd.more {S : List Addr} {B H H' : Hp} {A L : Addr} (w : Wd S B H) (hA : A ∈ S) (x : Xs [A] H H') (hA' : ∃ o, H' A = some o) (hL : H L = none) (hL' : ∃ o, H' L = some o) : Wd (L :: S) B H' :=
  ⟨(w.xsA hA x hA').ex, fun s m => by
    rcases List.mem_cons.mp m with rfl | m
    · exact w.fresh hL
    · exact w.no s m, fun s m => by
    rcases List.mem_cons.mp m with rfl | m
    · exact hL'
    · exact (w.xsA hA x hA').at_ s m⟩
/-- a new object, its dict -/
theorem Wd.made {S : List Addr} {B H : Hp} {C x dx : Addr} (w : Wd S B H) (hx : H x = none) (hdx : H dx = none) (hne : dx ≠ x) : Wd (x :: S) B (upd (upd H dx (.own x)) x (.ins C dx [])) ∧ x ∉ S ∧ Ex H (upd (upd H dx (.own x)) x (.ins C dx [])) := by
  have hx1 : upd H dx (.own x) x = none := by rw [upd_ne hne.symm]; exact hx
  exact ⟨(w.ext (Ex.new hdx)).own hx1, w.nin hx, (Ex.new hdx).trans (Ex.new hx1)⟩
/-! ### what flow, wide_side promise -/
def spFlow (K : PySem.W.Frag) : Sp := fun vs H Q _ => ∃ (S : List Addr) (B : Hp) (n : Int) (ts : List Tie) (t1 t2 : Bool) (src snk am : List Int), Wd S B H ∧ DqAll K B vs [webD n ts, seqD t1 (src.map .int), seqD t2 (snk.map .int)] ∧ WebOk n ts ∧ n ≤ 60 ∧ Ends2 n src snk ∧ Flowed n ts src snk am ∧
  ∀ Tp A L B' H', H A = none → H L = none → H Tp = none → A ≠ L → Tp ≠ A → Tp ≠ L → Ex H H' → Ex B B' → Wd (A :: L :: S) B' H' → B' Tp = some (.tup [.int (cutW ts (srt (keysC (bfs0 n ts src am)))), .ref A, .ref L]) → H' A = some (.lst (am.map V.int)) → H' L = some (.lst ((srt (keysC (bfs0 n ts src am))).map V.int)) → Q (.ref Tp) H'
def spWide (K : PySem.W.Frag) : Sp := fun vs H Q _ => ∃ (S : List Addr) (B : Hp) (n : Int) (ts : List Tie) (t1 t2 : Bool) (src snk am : List Int), Wd S B H ∧ DqAll K B vs [webD n ts, seqD t1 (src.map .int), seqD t2 (snk.map .int)] ∧ WebOk n ts ∧ n ≤ 60 ∧ Ends2 n src snk ∧ Flowed n ts src snk am ∧
  ∀ a H', H a = none → Ex H H' → H' a = some (.lst ((wideL n (backL n ts am snk)).map V.int)) → Q (.ref a) H'
end Pw

/-! ## PwTup -/
namespace Pw
open PySem PySem.Spec PyProof.Rows L2 Evl
theorem tuple_mul1 (l : Addr) (items : Array Value) (n : Nat) (dd : Option Addr) (sl : Array (Option Value)) (u : Tok) :
    Meets (Builtin.«tuple.__mul__» ⟨[.ref l, .int 1 u], []⟩) (fun _ R s => s.heap.get? l = some { cls := .type "tuple", dict := dd, data := .seq items n, slots := sl } ∧ R (.ok (.ret (Value.ref l))) s) :=
  .of_wp fun prog w A R s h => by
    obtain ⟨hp, g, d, tk, os⟩ := s
    obtain ⟨hl, h⟩ := h
    have f1 := AutoSeq1.idx_int
    wp_walk using wpAny_loadPart' hl
    have c1 : (items.isEmpty || (1 : Int) == 1) = true := by rw [Bool.or_comm]; rfl
    exact ⟨_, rfl, h⟩
def rRepT1 (K : PySem.W.Frag) : R2 := fun x y H Q => ∃ l xs, x = .ref l ∧ y = .int 1 ∧ SqT K H l xs ∧ Q (.ref l) H
section
variable {X : Cx}
/-- t * 1 is t -/
theorem op_repT1 : OpR X (binaryOp .Mult) (rRepT1 X.K) := by
  intro pins s σ H x y v u Q I rx ry h
  obtain ⟨l, xs, rfl, rfl, hT, q⟩ := h
  cases rx
  obtain ⟨t, rfl⟩ := ry
  obtain ⟨its, r, ⟨⟨cls, dd, data, sl⟩, ho, hc, n, hd⟩, hs⟩ := I.tuple hT
  simp only at hc hd
  subst hc hd
  exact wpAny_binaryOp_repeat_ref (T := "tuple") (U := "int") (by decide) ⟨_, ho, rfl⟩ (fun s' => typeIs_int s' 1 t) noFill_tuple_mul F.fills_int_mul F.slot_int_rmul repeat_tuple F.slot_int_index.lookup
    (call_meets F.slot_int_rmul (typeIs_int s 1 t) F.entry_int_rmul (F.args_int_rmul_2 _ _) (int_rmul_tuple 1 t l its.toArray n dd sl)
      ⟨ho, rfl, ⟨_, ho, rfl⟩, call_meets F.slot_tuple_mul ⟨_, ho, rfl⟩ F.entry_tuple_mul (F.args_tuple_mul_2 _ _) (tuple_mul1 l its.toArray n dd sl t) ⟨ho, .ref l, H, I, rfl, q⟩⟩)
theorem reads_intsT {h : Heap} : ∀ {its : List Value} {ns : List Int}, IntsAre its ns → ReadsAll h its (ns.map .int) []
  | _, _, .nil => .nil
  | _, _, .cons n t r => .cons (.int n t) (reads_intsT r)
theorem foldl_max : ∀ (ns : List Int) (n : Int), ns.foldl max n ∈ n :: ns ∧ ∀ y ∈ n :: ns, y ≤ ns.foldl max n
  | [], n => ⟨List.mem_cons_self, fun y hy => by rw [List.mem_singleton.mp hy]; exact Int.le_refl _⟩
  | k :: r, n => by
    obtain ⟨h1, h2⟩ := foldl_max r (max n k)
    show List.foldl max (max n k) r ∈ _ ∧ ∀ y ∈ _, y ≤ List.foldl max (max n k) r
    have h3 := h2 (max n k) List.mem_cons_self
    refine ⟨?_, fun y hy => ?_⟩
    · rcases List.mem_cons.mp h1 with e | e
      · rw [e]
        by_cases q : n ≤ k
        · rw [Int.max_eq_right q]
          exact List.mem_cons_of_mem _ List.mem_cons_self
        · rw [Int.max_eq_left (by omega)]
          exact List.mem_cons_self
      · exact List.mem_cons_of_mem _ (List.mem_cons_of_mem _ e)
    · rcases List.mem_cons.mp hy with rfl | hy
      · have := Int.le_max_left y k
        omega
      · rcases List.mem_cons.mp hy with rfl | hy
        · have := Int.le_max_right n y
          omega
        · exact h2 y (List.mem_cons_of_mem _ hy)
theorem depth_ints : ∀ ns : List Int, PyData.depthAll (ns.map .int) = 0
  | [] => by simp [PyData.depthAll]
  | _ :: r => by simp [PyData.depthAll, PyData.depth, depth_ints r]
/-- max of a tuple of ints -/
def rMaxT (K : PySem.W.Frag) : List V → Hp → VK → Prop := fun vs H Q => ∃ (a : Addr) (ns : List Int), vs = [V.ref a] ∧ SqT K H a (ns.map V.int) ∧ 0 < ns.length ∧ ∀ m, m ∈ ns → (∀ y, y ∈ ns → y ≤ m) → Q (.int m) H
theorem cr_maxT (hc : X.calm = true) (hu : X.A.units + 64 < cLine) : CallR X (.builtin "max") (rMaxT X.K) := by
  intro pins s σ H vs us Q I r h
  obtain ⟨a, ns, rfl, hs, hne, q⟩ := h
  obtain ⟨its, rv, hl, _⟩ := I.tuple hs
  rw [Vals.ref1 r]
  match ns, hne with
  | n :: rest, _ =>
  have hr : ReadsAll s.heap its.toArray.toList (.int n :: rest.map .int) [] := by
    have := reads_intsT (h := s.heap) rv.ints
    simpa using this
  refine PySem.W.max_tuple_data (I.ok.hd hc) hl hr ⟨fun x hx y hy => ?_, fun x hx => ?_⟩ ?_ fun i v h' tk bs _ rd hk => ?_
  · obtain ⟨i, _, rfl⟩ := List.mem_map.mp (show x ∈ (n :: rest).map PyData.int from hx)
    obtain ⟨j, _, rfl⟩ := List.mem_map.mp (show y ∈ (n :: rest).map PyData.int from hy)
    rfl
  · obtain ⟨i, _, rfl⟩ := List.mem_map.mp (show x ∈ (n :: rest).map PyData.int from hx)
    exact fun z => by cases z
  · have := depth_ints (n :: rest)
    rw [List.map_cons] at this
    rw [this]
    omega
  · rw [PySem.W.maxD_ints] at rd
    cases rd
    obtain ⟨h1, h2⟩ := foldl_max rest n
    exact ⟨.int _, H, I.kept hk, ⟨_, rfl⟩, q _ h1 h2⟩
end
end Pw

/-! ## PwMerge -/
namespace Pw
open PySem L2 Evl
/-! ### places made one -/
def nmA (names : List Int) (p : Int) : Int := (names[p.toNat]?).getD 0
def keyP (names : List Int) (a b : Int) : Int × Int := (if nmA names b < nmA names a then nmA names b else nmA names a, if nmA names b > nmA names a then nmA names b else nmA names a)
abbrev keyT (names : List Int) (t : Tie) : Int × Int := keyP names t.1 t.2.1
def Wt (names : List Int) (ts : List Tie) (k : Int × Int) : Int := ((ts.filter fun t => decide (keyT names t = k)).map fun t => t.2.2).sum
theorem Wt_nil (names : List Int) (k : Int × Int) : Wt names [] k = 0 := rfl
theorem Wt_cons (names : List Int) (t : Tie) (ts : List Tie) (k : Int × Int) : Wt names (t :: ts) k = (if keyT names t = k then t.2.2 else 0) + Wt names ts k := by
  unfold Wt
  by_cases h : keyT names t = k
  · rw [List.filter_cons, if_pos (decide_eq_true h), if_pos h, List.map_cons, List.sum_cons]
  · rw [List.filter_cons, if_neg (by rw [decide_eq_false h]; decide), if_neg h, Int.zero_add]
theorem Wt_snoc (names : List Int) (t : Tie) (k : Int × Int) : ∀ ts : List Tie, Wt names (ts ++ [t]) k = Wt names ts k + (if keyT names t = k then t.2.2 else 0)
  | [] => by rw [List.nil_append, Wt_cons, Wt_nil]; omega
  | u :: r => by rw [List.cons_append, Wt_cons, Wt_cons, Wt_snoc names t k r]; omega
theorem Wt_pos {names : List Int} {k : Int × Int} : ∀ {ts : List Tie}, (∀ t ∈ ts, 1 ≤ t.2.2) → 0 ≤ Wt names ts k ∧ ((∃ t ∈ ts, keyT names t = k) → 0 < Wt names ts k)
  | [], _ => ⟨Int.le_refl _, fun ⟨t, h, _⟩ => by cases h⟩
  | u :: r, h => by
    obtain ⟨h1, h2⟩ := Wt_pos (k := k) (names := names) (ts := r) fun t ht => h t (List.mem_cons_of_mem _ ht)
    have h3 := h u List.mem_cons_self
    rw [Wt_cons]
    refine ⟨by split <;> omega, ?_⟩
    rintro ⟨t, ht, e⟩
    rcases List.mem_cons.mp ht with rfl | ht
    · rw [if_pos e]; omega
    · have := h2 ⟨t, ht, e⟩
      split <;> omega
def lexM (m : Int) : List (Int × Int) := (rngI 0 m.toNat).flatMap fun a => (rngI 0 m.toNat).map fun b => (a, b)
theorem lexM_rise (m : Int) : (lexM m).Pairwise pltP := by
  unfold lexM
  rw [List.pairwise_flatMap]
  refine ⟨fun a _ => ?_, (rngI_lt 0 _).imp fun {a a'} h x hx y hy => ?_⟩
  · rw [List.pairwise_map]
    exact (rngI_lt 0 _).imp fun h => .inr ⟨rfl, h⟩
  · obtain ⟨b, _, rfl⟩ := List.mem_map.mp hx
    obtain ⟨b', _, rfl⟩ := List.mem_map.mp hy
    exact .inl h
theorem lexM_mem {m : Int} {p : Int × Int} : p ∈ lexM m ↔ (0 ≤ p.1 ∧ p.1 < m) ∧ 0 ≤ p.2 ∧ p.2 < m := by
  unfold lexM
  rw [List.mem_flatMap]
  constructor
  · rintro ⟨a, ha, hp⟩
    obtain ⟨b, hb, rfl⟩ := List.mem_map.mp hp
    have := rngI_mem.mp ha
    have := rngI_mem.mp hb
    show (0 ≤ a ∧ a < m) ∧ 0 ≤ b ∧ b < m
    omega
  · rintro ⟨h1, h2⟩
    exact ⟨p.1, rngI_mem.mpr ⟨h1.1, by omega⟩, List.mem_map.mpr ⟨p.2, rngI_mem.mpr ⟨h2.1, by omega⟩, rfl⟩⟩
theorem lexM_nodup (m : Int) : (lexM m).Nodup := (lexM_rise m).imp fun {a b} h e => by
  subst e
  unfold pltP at h
  omega
def prsM (m : Int) (names : List Int) (ts : List Tie) : List (Int × Int) := (lexM m).filter fun p => decide (p.1 < p.2) && decide (0 < Wt names ts p)
def mrgL (m : Int) (names : List Int) (ts : List Tie) : List Tie := (prsM m names ts).map fun p => (p.1, p.2, Wt names ts p)
theorem prsM_mem {m : Int} {names : List Int} {ts : List Tie} {p : Int × Int} : p ∈ prsM m names ts ↔ (0 ≤ p.1 ∧ p.1 < p.2 ∧ p.2 < m) ∧ 0 < Wt names ts p := by
  unfold prsM
  rw [List.mem_filter, lexM_mem, Bool.and_eq_true, decide_eq_true_iff, decide_eq_true_iff]
  constructor
  · rintro ⟨⟨h1, h2⟩, h3, h4⟩
    exact ⟨⟨h1.1, h3, h2.2⟩, h4⟩
  · rintro ⟨⟨h1, h2, h3⟩, h4⟩
    exact ⟨⟨⟨h1, by omega⟩, by omega, h3⟩, h2, h4⟩
theorem mrgL_mem {m : Int} {names : List Int} {ts : List Tie} {t : Tie} : t ∈ mrgL m names ts ↔ (0 ≤ t.1 ∧ t.1 < t.2.1 ∧ t.2.1 < m) ∧ 0 < t.2.2 ∧ Wt names ts (t.1, t.2.1) = t.2.2 := by
  unfold mrgL
  rw [List.mem_map]
  constructor
  · rintro ⟨p, hp, rfl⟩
    have := prsM_mem.mp hp
    exact ⟨this.1, this.2, rfl⟩
  · rintro ⟨h1, h2, h3⟩
    exact ⟨(t.1, t.2.1), prsM_mem.mpr ⟨h1, by rw [h3]; exact h2⟩, by rw [h3]⟩
theorem mrgL_rise (m : Int) (names : List Int) (ts : List Tie) : (mrgL m names ts).Pairwise pairLt := by
  unfold mrgL
  rw [List.pairwise_map]
  exact ((lexM_rise m).filter _).imp fun h => h
theorem ties_eq : ∀ {l m : List Tie}, l.Pairwise pairLt → m.Pairwise pairLt → (∀ x, x ∈ l ↔ x ∈ m) → l = m
  | [], [], _, _, _ => rfl
  | [], b :: m, _, _, h => by cases (h b).mpr List.mem_cons_self
  | a :: l, [], _, _, h => by cases (h a).mp List.mem_cons_self
  | a :: l, b :: m, h1, h2, h => by
    rw [List.pairwise_cons] at h1 h2
    have irr : ∀ {p q : Tie}, pairLt p q → pairLt q p → False := fun {p q} x y => by
      unfold pairLt at x y
      omega
    have e : a = b := by
      rcases List.mem_cons.mp ((h a).mp List.mem_cons_self) with e | e
      · exact e
      · rcases List.mem_cons.mp ((h b).mpr List.mem_cons_self) with e' | e'
        · exact e'.symm
        · exact (irr (h2.1 a e) (h1.1 b e')).elim
    subst e
    congr 1
    refine ties_eq h1.2 h2.2 fun x => ?_
    constructor
    · intro hx
      rcases List.mem_cons.mp ((h x).mp (List.mem_cons_of_mem _ hx)) with e | e
      · subst e
        exact (irr (h1.1 x hx) (h1.1 x hx)).elim
      · exact e
    · intro hx
      rcases List.mem_cons.mp ((h x).mpr (List.mem_cons_of_mem _ hx)) with e | e
      · subst e
        exact (irr (h2.1 x hx) (h2.1 x hx)).elim
      · exact e
theorem mrgL_of {m : Int} {names : List Int} {ts ts' : List Tie} (h1 : ts'.Pairwise pairLt) (h2 : ∀ t, t ∈ ts' ↔ (0 ≤ t.1 ∧ t.1 < t.2.1 ∧ t.2.1 < m) ∧ 0 < t.2.2 ∧ Wt names ts (t.1, t.2.1) = t.2.2) : ts' = mrgL m names ts :=
  ties_eq h1 (mrgL_rise m names ts) fun t => by rw [h2, mrgL_mem]
/-! ### sums -/
theorem sum_one {k : Int × Int} {w : Int} : ∀ {P : List (Int × Int)}, P.Nodup → (P.map fun p => if k = p then w else 0).sum = if k ∈ P then w else 0
  | [], _ => rfl
  | p :: r, h => by
    rw [List.nodup_cons] at h
    rw [List.map_cons, List.sum_cons, sum_one h.2]
    by_cases e : k = p
    · subst e
      rw [if_pos rfl, if_neg h.1, if_pos List.mem_cons_self, Int.add_zero]
    · rw [if_neg e, Int.zero_add]
      by_cases q : k ∈ r
      · rw [if_pos q, if_pos (List.mem_cons_of_mem _ q)]
      · rw [if_neg q, if_neg (fun z => (List.mem_cons.mp z).elim e q)]
theorem sum_add {α : Type} (f g : α → Int) : ∀ l : List α, (l.map fun x => f x + g x).sum = (l.map f).sum + (l.map g).sum
  | [] => rfl
  | x :: r => by
    rw [List.map_cons, List.map_cons, List.map_cons, List.sum_cons, List.sum_cons, List.sum_cons, sum_add f g r]
    omega
theorem sum_keys {names : List Int} {P : List (Int × Int)} (hP : P.Nodup) : ∀ ts : List Tie, (P.map fun p => Wt names ts p).sum = ((ts.filter fun t => decide (keyT names t ∈ P)).map fun t => t.2.2).sum
  | [] => by
    have : ∀ P : List (Int × Int), (P.map fun p => Wt names [] p).sum = 0 := by
      intro P
      induction P with
      | nil => rfl
      | cons p r ih => rw [List.map_cons, List.sum_cons, ih, Wt_nil]; rfl
    exact this P
  | t :: r => by
    have e : (P.map fun p => Wt names (t :: r) p) = P.map fun p => (if keyT names t = p then t.2.2 else 0) + Wt names r p := List.map_congr_left fun p _ => Wt_cons names t r p
    rw [e, sum_add, sum_one hP, sum_keys hP r, List.filter_cons]
    by_cases q : keyT names t ∈ P
    · rw [if_pos q, if_pos (decide_eq_true q), List.map_cons, List.sum_cons]
    · rw [if_neg q, if_neg (by rw [decide_eq_false q]; decide), Int.zero_add]
/-- the merged ties of some pairs weigh what the ties of these pairs do -/
theorem mrgL_sum {m : Int} {names : List Int} {ts : List Tie} (hw : ∀ t ∈ ts, 1 ≤ t.2.2) (hk : ∀ t ∈ ts, 0 ≤ (keyT names t).1 ∧ (keyT names t).2 < m) (c : Int × Int → Bool) :
    (((mrgL m names ts).filter fun u => c (u.1, u.2.1)).map fun u => u.2.2).sum = ((ts.filter fun t => decide ((keyT names t).1 < (keyT names t).2) && c (keyT names t)).map fun t => t.2.2).sum := by
  have e1 : (((mrgL m names ts).filter fun u => c (u.1, u.2.1)).map fun u => u.2.2) = ((prsM m names ts).filter c).map fun p => Wt names ts p := by
    unfold mrgL
    rw [List.filter_map, List.map_map]
    rfl
  have hnd : ((prsM m names ts).filter c).Nodup := ((lexM_nodup m).filter _).filter _
  rw [e1, sum_keys hnd]
  congr 2
  refine List.filter_congr fun t ht => ?_
  rw [Bool.eq_iff_iff, decide_eq_true_iff, List.mem_filter, prsM_mem, Bool.and_eq_true, decide_eq_true_iff]
  have h1 := hk t ht
  have h2 := (Wt_pos (names := names) (k := keyT names t) hw).2 ⟨t, ht, rfl⟩
  constructor
  · rintro ⟨⟨h3, _⟩, h4⟩
    exact ⟨h3.2.1, h4⟩
  · rintro ⟨h3, h4⟩
    exact ⟨⟨⟨h1.1, h3, h1.2⟩, h2⟩, h4⟩
theorem nmA_map {names : List Int} {g : Int → Int} {p : Int} (h0 : 0 ≤ p) (h1 : p.toNat < names.length) : nmA (names.map g) p = g (nmA names p) := by
  unfold nmA
  rw [List.getElem?_map, List.getElem?_eq_getElem h1]
  rfl
theorem Wt_comp {m n : Int} {names more : List Int} {ts : List Tie} (hw : ∀ t ∈ ts, 1 ≤ t.2.2) (hin : TiesIn n ts) (hl : names.length = n.toNat) (hk : ∀ t ∈ ts, 0 ≤ (keyT names t).1 ∧ (keyT names t).2 < m) {k : Int × Int} (hk2 : k.1 < k.2) :
    Wt more (mrgL m names ts) k = Wt (names.map (nmA more)) ts k := by
  have h := mrgL_sum hw hk (fun p => decide (keyP more p.1 p.2 = k))
  unfold Wt
  refine h.trans ?_
  congr 2
  refine List.filter_congr fun t ht => ?_
  have hr := hin t ht
  have e1 : nmA (names.map (nmA more)) t.1 = nmA more (nmA names t.1) := nmA_map hr.1 (by omega)
  have e2 : nmA (names.map (nmA more)) t.2.1 = nmA more (nmA names t.2.1) := nmA_map (by omega) (by omega)
  show (decide ((keyP names t.1 t.2.1).1 < (keyP names t.1 t.2.1).2) && decide (keyP more (keyP names t.1 t.2.1).1 (keyP names t.1 t.2.1).2 = k)) = decide (keyP (names.map (nmA more)) t.1 t.2.1 = k)
  unfold keyP
  rw [e1, e2]
  obtain ⟨k1, k2⟩ := k
  simp only at hk2
  generalize nmA names t.1 = x
  generalize nmA names t.2.1 = y
  rw [Bool.eq_iff_iff, Bool.and_eq_true, decide_eq_true_iff, decide_eq_true_iff, decide_eq_true_iff, Prod.mk.injEq, Prod.mk.injEq]
  rcases Int.lt_trichotomy x y with q | q | q
  · rw [if_neg (show ¬ y < x by omega), if_pos (show y > x by omega)]
    exact ⟨fun h => h.2, fun h => ⟨q, h⟩⟩
  · subst q
    rw [if_neg (show ¬ x < x by omega)]
    dsimp only
    generalize nmA more x = z
    rw [if_neg (show ¬ z < z by omega)]
    omega
  · rw [if_pos (show y < x by omega), if_neg (show ¬ y > x by omega)]
    generalize nmA more x = gx
    generalize nmA more y = gy
    rcases Int.lt_trichotomy gx gy with r | r | r
    · rw [if_pos (show gx < gy by omega), if_neg (show ¬ gx > gy by omega), if_neg (show ¬ gy < gx by omega), if_pos (show gy > gx by omega)]
      dsimp only
      omega
    · subst r
      rw [if_neg (show ¬ gx < gx by omega)]
      dsimp only
      omega
    · rw [if_neg (show ¬ gx < gy by omega), if_pos (show gx > gy by omega), if_pos (show gy < gx by omega), if_neg (show ¬ gy > gx by omega)]
      dsimp only
      omega
theorem mrgL_comp {m m2 n : Int} {names more : List Int} {ts : List Tie} (hw : ∀ t ∈ ts, 1 ≤ t.2.2) (hin : TiesIn n ts) (hl : names.length = n.toNat) (hk : ∀ t ∈ ts, 0 ≤ (keyT names t).1 ∧ (keyT names t).2 < m) :
    mrgL m2 more (mrgL m names ts) = mrgL m2 (names.map (nmA more)) ts := by
  refine mrgL_of (mrgL_rise _ _ _) fun t => ?_
  rw [mrgL_mem]
  constructor
  · rintro ⟨h1, h2, h3⟩
    exact ⟨h1, h2, by rw [← Wt_comp hw hin hl hk (k := (t.1, t.2.1)) h1.2.1]; exact h3⟩
  · rintro ⟨h1, h2, h3⟩
    exact ⟨h1, h2, by rw [Wt_comp hw hin hl hk (k := (t.1, t.2.1)) h1.2.1]; exact h3⟩
theorem nmA_id {n p : Int} (h0 : 0 ≤ p) (h1 : p < n) : nmA (rngI 0 n.toNat) p = p := by
  unfold nmA
  rw [rngI_get (by omega)]
  show (0 : Int) + ((p.toNat : Nat) : Int) = p
  omega
theorem Wt_own {names : List Int} : ∀ {us : List Tie}, (∀ t ∈ us, keyT names t = (t.1, t.2.1)) → us.Pairwise pairLt → ∀ a b : Int, (∀ w, (a, b, w) ∈ us → Wt names us (a, b) = w) ∧ ((∀ w, (a, b, w) ∉ us) → Wt names us (a, b) = 0)
  | [], _, _, a, b => ⟨fun w h => (by cases h), fun _ => rfl⟩
  | u :: r, hk, hp, a, b => by
    rw [List.pairwise_cons] at hp
    obtain ⟨h1, h2⟩ := Wt_own (fun t ht => hk t (List.mem_cons_of_mem _ ht)) hp.2 a b
    rw [Wt_cons, hk u List.mem_cons_self]
    by_cases e : (u.1, u.2.1) = (a, b)
    · rw [if_pos e]
      have e1 : u.1 = a := congrArg Prod.fst e
      have e2 : u.2.1 = b := congrArg Prod.snd e
      have hno : ∀ w, (a, b, w) ∉ r := fun w h => by
        have h3 := hp.1 _ h
        unfold pairLt at h3
        have h4 : u.1 < a ∨ u.1 = a ∧ u.2.1 < b := h3
        omega
      rw [h2 hno]
      refine ⟨fun w h => ?_, fun h => ?_⟩
      · rcases List.mem_cons.mp h with h | h
        · rw [← h]; exact Int.add_zero _
        · exact absurd h (hno w)
      · exact absurd (show (a, b, u.2.2) ∈ u :: r by rw [← e1, ← e2]; exact List.mem_cons_self) (h u.2.2)
    · rw [if_neg e, Int.zero_add]
      refine ⟨fun w h => ?_, fun h => h2 fun w hw => h w (List.mem_cons_of_mem _ hw)⟩
      rcases List.mem_cons.mp h with h | h
      · exact absurd (by rw [← h]) e
      · exact h1 w h
theorem mrgL_id {n : Int} {ts : List Tie} (h : WebOk n ts) : mrgL n (rngI 0 n.toNat) ts = ts := by
  have hk : ∀ t ∈ ts, keyT (rngI 0 n.toNat) t = (t.1, t.2.1) := fun t ht => by
    obtain ⟨h1, h2, h3, _⟩ := h.tie t ht
    show keyP _ _ _ = _
    unfold keyP
    rw [nmA_id h1 (by omega), nmA_id (by omega) h3, if_neg (by omega), if_pos (by omega)]
  refine (mrgL_of h.rise fun t => ?_).symm
  obtain ⟨h1, h2⟩ := Wt_own hk h.rise t.1 t.2.1
  constructor
  · intro ht
    obtain ⟨g1, g2, g3, g4, _⟩ := h.tie t ht
    exact ⟨⟨g1, g2, g3⟩, by omega, h1 t.2.2 ht⟩
  · rintro ⟨_, g2, g3⟩
    by_cases q : ∃ w, (t.1, t.2.1, w) ∈ ts
    · obtain ⟨w, hw⟩ := q
      have := h1 w hw
      rw [g3] at this
      rw [← this] at hw
      exact hw
    · rw [h2 fun w hw => q ⟨w, hw⟩] at g3
      omega
theorem mrgL_one (names : List Int) (ts : List Tie) : mrgL 1 names ts = [] := by
  refine List.eq_nil_iff_forall_not_mem.mpr fun t ht => ?_
  have := (mrgL_mem.mp ht).1
  omega
theorem mrgL_len {m : Int} {names : List Int} {ts : List Tie} (hm : 0 ≤ m ∧ m ≤ 30) : (mrgL m names ts).length ≤ 900 := by
  unfold mrgL prsM
  rw [List.length_map]
  refine Nat.le_trans (List.length_filter_le _ _) ?_
  have e : (lexM m).length = m.toNat * m.toNat := by
    unfold lexM
    rw [List.length_flatMap]
    have : ((rngI 0 m.toNat).map fun a => ((rngI 0 m.toNat).map fun b => (a, b)).length) = List.replicate m.toNat m.toNat := by
      rw [List.eq_replicate_iff]
      refine ⟨by rw [List.length_map, rngI_len], fun x hx => ?_⟩
      obtain ⟨a, _, rfl⟩ := List.mem_map.mp hx
      rw [List.length_map, rngI_len]
    rw [this, List.sum_replicate_nat]
  rw [e]
  have h2 : m.toNat ≤ 30 := by omega
  exact Nat.le_trans (Nat.mul_le_mul h2 h2) (by decide)
theorem nodup_len {α : Type} [DecidableEq α] : ∀ {l m : List α}, l.Nodup → (∀ x ∈ l, x ∈ m) → l.length ≤ m.length
  | [], _, _, _ => Nat.zero_le _
  | a :: r, m, h, hs => by
    rw [List.nodup_cons] at h
    have h1 := nodup_len (m := m.erase a) h.2 fun x hx => by
      have hxa : x ≠ a := fun z => h.1 (z ▸ hx)
      exact (List.mem_erase_of_ne hxa).mpr (hs x (List.mem_cons_of_mem _ hx))
    have h2 := List.length_erase_of_mem (hs a List.mem_cons_self)
    have h3 : 0 < m.length := List.length_pos_of_mem (hs a List.mem_cons_self)
    rw [List.length_cons]
    omega
theorem Wt_zero {names : List Int} {k : Int × Int} : ∀ {ts : List Tie}, (∀ t ∈ ts, keyT names t ≠ k) → Wt names ts k = 0
  | [], _ => rfl
  | u :: r, h => by
    rw [Wt_cons, if_neg (h u List.mem_cons_self), Wt_zero fun t ht => h t (List.mem_cons_of_mem _ ht)]
    rfl
theorem mrgL_few {m : Int} {names : List Int} {ts : List Tie} : (mrgL m names ts).length ≤ ts.length := by
  unfold mrgL
  rw [List.length_map]
  have h := nodup_len (l := prsM m names ts) (m := ts.map fun t => keyT names t) ((lexM_nodup m).filter _) fun p hp => by
    have h1 := (prsM_mem.mp hp).2
    by_cases q : ∃ t ∈ ts, keyT names t = p
    · obtain ⟨t, ht, e⟩ := q
      exact List.mem_map.mpr ⟨t, ht, e⟩
    · rw [Wt_zero fun t ht e => q ⟨t, ht, e⟩] at h1
      exact absurd h1 (by decide)
  rw [List.length_map] at h
  exact h
theorem mrgL_web {m : Int} {names : List Int} {ts : List Tie} (hm : 1 ≤ m) (hl : ts.length ≤ 100) : WebOk m (mrgL m names ts) := ⟨hm, fun t ht => by
  obtain ⟨h1, h2, _⟩ := mrgL_mem.mp ht
  exact ⟨h1.1, h1.2.1, h1.2.2, h2, Int.le_refl _⟩, mrgL_rise _ _ _, Nat.le_trans mrgL_few hl⟩
/-- numbers for n places, below m, the greatest one among them -/
structure NmOk (n m : Int) (names : List Int) : Prop where
  len : names.length = n.toNat
  rng : ∀ x ∈ names, 0 ≤ x ∧ x < m
  all : ∀ x, 0 ≤ x → x < m → x ∈ names
theorem NmOk.top {n m : Int} {names : List Int} (h : NmOk n m names) (hm : 1 ≤ m) : m - 1 ∈ names := h.all _ (by omega) (by omega)
theorem NmOk.at {n m : Int} {names : List Int} (h : NmOk n m names) {p : Int} (h0 : 0 ≤ p) (h1 : p < n) : names[p.toNat]? = some (nmA names p) ∧ 0 ≤ nmA names p ∧ nmA names p < m := by
  have hl := h.len
  have e := List.getElem?_eq_getElem (l := names) (i := p.toNat) (by omega)
  have e2 : nmA names p = names[p.toNat]'(by omega) := by
    unfold nmA
    rw [e]
    rfl
  rw [e2]
  exact ⟨e, h.rng _ (List.getElem_mem _)⟩
end Pw

/-! ## PwConv -/
namespace Pw
open PySem L2 Evl
section
variable {K : PySem.W.Frag} {σ : L2.St} {B : Hp} {ta tb : TE}
theorem ev_tupRg {n : Int} (h : EvD K ta σ B (.int n)) (hn : 0 ≤ n ∧ n ≤ 100000) : EvD K (tTupRg (tRg1 ta)) σ B (.tuple ((rngI 0 n.toNat).map .int)) :=
  evR_of (fun S H w Q q => h.bind w fun x B1 H1 e1 eB1 w1 rx => by
    cases rx
    refine ⟨n, rfl, RgOk.of_le (by omega) (by omega) (by omega) (by omega), fun p hp => ?_⟩
    have e : rgV 0 n = (rngI 0 n.toNat).map V.int := by
      unfold rgV rngI
      rw [List.map_map, Int.sub_zero]
      rfl
    rw [e]
    exact q (.ref p) _ _ (e1.trans (Ex.new hp)) (eB1.trans (w1.newE (o := .tup ((rngI 0 n.toNat).map V.int)) hp)) (w1.new hp) (.tup upd_same DqAll.ints)) stays_dp
theorem flat_rep (x : V) : ∀ n : Nat, (List.replicate n [x]).flatten = List.replicate n x
  | 0 => rfl
  | n + 1 => by rw [List.replicate_succ, List.flatten_cons, flat_rep x n, List.replicate_succ]; rfl
theorem ev_rep {k n : Int} (ha : EvD K ta σ B (.tuple [.int k])) (hb : EvD K tb σ B (.int n)) (hn : 1 ≤ n ∧ n ≤ 1000) : EvD K (tOp (fun x y H Q => rRepT1 K x y H Q ∨ rRepT K x y H Q) ta tb) σ B (.tuple ((List.replicate n.toNat k).map .int)) :=
  evR_of (fun S H w Q q => ha.bind w fun x B1 H1 e1 eB1 w1 rx => (hb.mono eB1).bind w1 fun y B2 H2 e2 eB2 w2 ry => by
    cases ry
    cases rx with
    | @tup a xs _ hs hd =>
    have ex := DqAll.ints_eq (ns := [k]) hd
    subst ex
    by_cases h1 : n = 1
    · subst h1
      refine .inl ⟨a, _, rfl, rfl, st_of ((eB2.trans w2.ex) _ _ hs), q (.ref a) B2 H2 (e1.trans e2) (eB1.trans eB2) w2 (.tup (eB2 _ _ hs) (.cons (.int k) .nil))⟩
    · refine .inr ⟨a, n, _, rfl, rfl, st_of ((eB2.trans w2.ex) _ _ hs), List.cons_ne_nil _ _, by omega, by omega, by show 1 ≤ 1000; decide, fun p hp => ?_⟩
      have e : (List.replicate n.toNat ([k].map V.int)).flatten = (List.replicate n.toNat k).map V.int := by
        rw [List.map_replicate]
        exact flat_rep (V.int k) n.toNat
      rw [e]
      exact q (.ref p) _ _ ((e1.trans e2).trans (Ex.new hp)) ((eB1.trans eB2).trans (w2.newE (o := .tup ((List.replicate n.toNat k).map V.int)) hp)) (w2.new hp) (.tup upd_same DqAll.ints)) stays_dp
end
end Pw

/-! ## PwSides -/
namespace Pw
open PySem PySem.Spec PyProof.Rows L2 Evl

/-! ### xs + ys, lists handed in -/
def rCatQ (K : PySem.W.Frag) : R2 := fun x y H Q => ∃ (a b : Addr) (xs ys : List V), x = .ref a ∧ y = .ref b ∧ SqL K H a xs ∧ SqL K H b ys ∧ xs.length + ys.length ≤ sizeLine ∧ ∀ p, H p = none → Q (.ref p) (upd H p (.lst (xs ++ ys)))
theorem op_catQ {X : Cx} : OpR X (binaryOp .Add) (rCatQ X.K) := by
  intro pins s σ H x y v u Q I rx ry h
  obtain ⟨a, b, xs, ys, rfl, rfl, ha, hb, hz, q⟩ := h
  cases rx
  cases ry
  obtain ⟨its, r, pl, h1⟩ := I.list ha
  obtain ⟨its2, r2, pl2, h2⟩ := I.list hb
  obtain ⟨⟨c1, d1, t1, l1⟩, o1, e1, n1, f1⟩ := pl.isList
  obtain ⟨⟨c2, d2, t2, l2⟩, o2, e2, n2, f2⟩ := pl2.isList
  simp only at e1 f1 e2 f2
  subst e1 f1 e2 f2
  have hl := r.length
  have hl2 := r2.length
  refine PySem.concat_meets ⟨_, o1, rfl⟩ ⟨_, o2, rfl⟩ noFill_list_add seq_list_add PySem.F.slot_list_add PySem.F.entry_list_add (PySem.F.args_list_add_2 _ _) (list_addW a b its.toArray its2.toArray n1 n2 d1 d2 l1 l2 (by rw [List.size_toArray, List.size_toArray]; omega)) ⟨o1, o2, ?_⟩
  have ea : its.toArray ++ its2.toArray = (its ++ its2).toArray := by simp
  rw [ea]
  exact ⟨.ref s.heap.objs.size, _, I.lnew (t' := s.toks) (r.append r2) (by rw [List.length_append]; omega), rfl, q _ I.fresh⟩
section
variable {K : PySem.W.Frag} {σ : L2.St} {B H : Hp} {S : List Addr} {ta tb : TE} {ds es : List PyData}
theorem ev_catQ (ha : EvD K ta σ B (.list ds)) (hb : EvD K tb σ B (.list es)) (hl : ds.length + es.length ≤ 100000) : EvD K (tOp (rCatQ K) ta tb) σ B (.list (ds ++ es)) :=
  evR_of (fun S H w Q q => ha.bind w fun x B1 H1 e1 eB1 w1 rx => (hb.mono eB1).bind w1 fun y B2 H2 e2 eB2 w2 ry => by
    cases rx with
    | @lst a xs _ ha1 ha2 =>
    cases ry with
    | @lst b ys _ hb1 hb2 =>
    have hxl := DqAll.length ha2
    have hyl := DqAll.length hb2
    exact ⟨a, b, xs, ys, rfl, rfl, ex_l (eB2.trans w2.ex) ha1, ex_l w2.ex hb1, sz_of (by omega), fun p hp => q (.ref p) _ _ ((e1.trans e2).trans (Ex.new hp)) ((eB1.trans eB2).trans (w2.newE (o := .lst (xs ++ ys)) hp)) (w2.new hp) (.lst (sq_of upd_same) (DqAll.app (DqAll.mono (eB2.trans (w2.newE hp)) ha2) (DqAll.mono (w2.newE hp) hb2)))⟩) stays_dp
end

/-! ### one step into a goal -/
section
variable {σ : L2.St} {H : Hp} {te ta : TE} {tt tu : TT} {t u : TS} {D : Ends} {tA : TA} {sp : Sp} {E : XK}
theorem u_if (h : tt σ H fun b H1 => if b = true then t D σ H1 else u D σ H1) : tIfS tt t u D σ H := h
theorem u_not {Q : Bool → Hp → Prop} (h : tt σ H fun b H1 => Q (!b) H1) : tNot tt σ H Q := h
theorem u_or {Q : Bool → Hp → Prop} (h : tt σ H fun b H1 => if b = true then Q true H1 else tu σ H1 Q) : tOr tt tu σ H Q := h
theorem u_B {Q : Bool → Hp → Prop} (h : te σ H fun x H1 => ∃ c, x = .bl c ∧ Q c H1) : tB te σ H Q := h
theorem u_test {Q : Bool → Hp → Prop} (h : te σ H fun x H1 => ∃ c, x = .bl c ∧ Q c H1) : tTest te σ H Q := h
theorem u_call {Q : VK} (h : tA σ H fun vs H1 => sp (vs ++ []) H1 Q E) : tCall sp [] E tA σ H Q := h
theorem u_ac {Q : List V → Hp → Prop} (h : ta σ H fun x H1 => tA σ H1 fun xs H2 => Q (x :: xs) H2) : tCons ta tA σ H Q := h
theorem u_a1 {Q : List V → Hp → Prop} (h : ta σ H fun x H1 => Q [x] H1) : tCons ta tNil σ H Q := h
end
/-! ### all sides, gone through -/
def freeP (src snk : List Int) (p : Int) : Bool := !decide (p ∈ src) && !decide (p ∈ snk)
def sidesF (src snk : List Int) (ps : List Int) : List (List Int) := ps.foldl (fun L p => if freeP src snk p = true then L ++ L.map (fun X => X ++ [p]) else L) [src]
theorem sides_snoc (src snk ps : List Int) (p : Int) : sidesF src snk (ps ++ [p]) = if freeP src snk p = true then sidesF src snk ps ++ (sidesF src snk ps).map (fun X => X ++ [p]) else sidesF src snk ps := by
  unfold sidesF
  rw [List.foldl_append]
  rfl
theorem snoc_ind {α : Type} {P : List α → Prop} (h0 : P []) (hs : ∀ l a, P l → P (l ++ [a])) : ∀ l, P l := fun l => by
  have : ∀ n, ∀ l : List α, l.length = n → P l := by
    intro n
    induction n with
    | zero =>
      intro l h
      rw [List.length_eq_zero_iff.mp h]
      exact h0
    | succ n ih =>
      intro l h
      have hne : l ≠ [] := fun z => by rw [z] at h; cases h
      rw [← List.dropLast_concat_getLast hne]
      exact hs _ _ (ih _ (by rw [List.length_dropLast, h]; rfl))
  exact this _ l rfl
theorem sides_len (src snk : List Int) : ∀ ps : List Int, (sidesF src snk ps).length ≤ 2 ^ ps.length := snoc_ind (Nat.le_refl _) fun ps p ih => by
  rw [sides_snoc, List.length_append]
  show _ ≤ 2 ^ (ps.length + 1)
  rw [Nat.pow_succ]
  split
  · rw [List.length_append, List.length_map]
    omega
  · omega
theorem sides_in {src snk : List Int} (hs : src.Nodup) : ∀ ps : List Int, ps.Nodup → ∀ X ∈ sidesF src snk ps, X.Nodup ∧ (∀ s ∈ src, s ∈ X) ∧ (∀ x ∈ X, x ∈ src ∨ x ∈ ps ∧ freeP src snk x = true) ∧ X.length ≤ src.length + ps.length := by
  refine snoc_ind (P := fun ps => ps.Nodup → ∀ X ∈ sidesF src snk ps, X.Nodup ∧ (∀ s ∈ src, s ∈ X) ∧ (∀ x ∈ X, x ∈ src ∨ x ∈ ps ∧ freeP src snk x = true) ∧ X.length ≤ src.length + ps.length) ?_ ?_
  · intro _ X hX
    rw [List.mem_singleton.mp hX]
    exact ⟨hs, fun s h => h, fun x h => .inl h, Nat.le_refl _⟩
  · intro ps p ih hn X hX
    have hn2 := List.nodup_append.mp hn
    have ih := ih hn2.1
    have wk : ∀ X ∈ sidesF src snk ps, X.Nodup ∧ (∀ s ∈ src, s ∈ X) ∧ (∀ x ∈ X, x ∈ src ∨ x ∈ ps ++ [p] ∧ freeP src snk x = true) ∧ X.length ≤ src.length + (ps ++ [p]).length := fun X h => by
      obtain ⟨h1, h2, h3, h4⟩ := ih X h
      refine ⟨h1, h2, fun x hx => (h3 x hx).imp id fun z => ⟨List.mem_append_left _ z.1, z.2⟩, ?_⟩
      rw [List.length_append]
      omega
    rw [sides_snoc] at hX
    by_cases c : freeP src snk p = true
    · rw [if_pos c] at hX
      rcases List.mem_append.mp hX with hX | hX
      · exact wk X hX
      · obtain ⟨Y, hY, rfl⟩ := List.mem_map.mp hX
        obtain ⟨h1, h2, h3, h4⟩ := ih Y hY
        have hp : p ∉ Y := fun m => by
          rcases h3 p m with z | ⟨z, _⟩
          · unfold freeP at c
            rw [decide_eq_true z] at c
            cases c
          · exact hn2.2.2 p z p (List.mem_singleton.mpr rfl) rfl
        refine ⟨?_, fun s hs' => List.mem_append_left _ (h2 s hs'), fun x hx => ?_, ?_⟩
        · rw [List.nodup_append]
          exact ⟨h1, by simp, fun a ha b hb z => hp (by rw [← List.mem_singleton.mp hb, ← z]; exact ha)⟩
        · rcases List.mem_append.mp hx with hx | hx
          · exact (h3 x hx).imp id fun z => ⟨List.mem_append_left _ z.1, z.2⟩
          · rw [List.mem_singleton.mp hx]
            exact .inr ⟨List.mem_append_right _ (List.mem_singleton.mpr rfl), c⟩
        · rw [List.length_append, List.length_append]
          show Y.length + 1 ≤ src.length + (ps.length + 1)
          omega
    · rw [if_neg c] at hX
      exact wk X hX
theorem sides_all {src snk : List Int} (f : Int → Bool) : ∀ ps : List Int, ∃ X ∈ sidesF src snk ps, ∀ x, x ∈ X ↔ x ∈ src ∨ x ∈ ps ∧ freeP src snk x = true ∧ f x = true := by
  refine snoc_ind (P := fun ps => ∃ X ∈ sidesF src snk ps, ∀ x, x ∈ X ↔ x ∈ src ∨ x ∈ ps ∧ freeP src snk x = true ∧ f x = true) ?_ ?_
  · exact ⟨src, List.mem_singleton.mpr rfl, fun x => ⟨fun h => .inl h, fun h => h.elim id fun z => by cases z.1⟩⟩
  · rintro ps p ⟨X, hX, h⟩
    rw [sides_snoc]
    by_cases c : freeP src snk p = true
    · rw [if_pos c]
      by_cases d : f p = true
      · refine ⟨X ++ [p], List.mem_append_right _ (List.mem_map.mpr ⟨X, hX, rfl⟩), fun x => ?_⟩
        rw [List.mem_append, h x, List.mem_append, List.mem_singleton]
        constructor
        · rintro ((h1 | ⟨h1, h2⟩) | rfl)
          · exact .inl h1
          · exact .inr ⟨.inl h1, h2⟩
          · exact .inr ⟨.inr rfl, c, d⟩
        · rintro (h1 | ⟨h1 | rfl, h2⟩)
          · exact .inl (.inl h1)
          · exact .inl (.inr ⟨h1, h2⟩)
          · exact .inr rfl
      · refine ⟨X, List.mem_append_left _ hX, fun x => ?_⟩
        rw [h x, List.mem_append, List.mem_singleton]
        constructor
        · rintro (h1 | ⟨h1, h2⟩)
          · exact .inl h1
          · exact .inr ⟨.inl h1, h2⟩
        · rintro (h1 | ⟨h1 | rfl, h2⟩)
          · exact .inl h1
          · exact .inr ⟨h1, h2⟩
          · exact absurd h2.2 d
    · rw [if_neg c]
      refine ⟨X, hX, fun x => ?_⟩
      rw [h x, List.mem_append, List.mem_singleton]
      constructor
      · rintro (h1 | ⟨h1, h2⟩)
        · exact .inl h1
        · exact .inr ⟨.inl h1, h2⟩
      · rintro (h1 | ⟨h1 | rfl, h2⟩)
        · exact .inl h1
        · exact .inr ⟨h1, h2⟩
        · exact absurd h2.1 c
theorem cutW_congr {ts : List Tie} {X Y : List Int} (h : ∀ x, x ∈ X ↔ x ∈ Y) : cutW ts X = cutW ts Y := by
  rw [cutW_eq, cutW_eq]
  congr 1
  refine List.map_congr_left fun t _ => ?_
  unfold cutT
  have e : ∀ x, decide (x ∈ X) = decide (x ∈ Y) := fun x => decide_eq_decide.mpr (h x)
  rw [e, e]
theorem srt_mem {X : List Int} {x : Int} : x ∈ srt X ↔ x ∈ X := (srt_perm X).mem_iff
section
variable {n : Int} {ts : List Tie} {src snk am : List Int}
def sidesL (n : Int) (src snk : List Int) : List (List Int) := (sidesF src snk (rngI 0 n.toNat)).map srt
theorem sidesL_side (e : Ends2 n src snk) {X : List Int} (h : X ∈ sidesL n src snk) : Side src snk X ∧ (∀ p ∈ X, 0 ≤ p ∧ p < n) ∧ X.Pairwise (· ≤ ·) := by
  obtain ⟨Y, hY, rfl⟩ := List.mem_map.mp h
  obtain ⟨h1, h2, h3, _⟩ := sides_in (snk := snk) e.nd (rngI 0 n.toNat) (rngI_nd _ _) Y hY
  refine ⟨⟨(srt_perm Y).nodup_iff.mpr h1, fun s hs => srt_mem.mpr (h2 s hs), fun s hs hm => ?_⟩, fun p hp => ?_, srt_le Y⟩
  · rcases h3 s (srt_mem.mp hm) with z | ⟨_, z⟩
    · exact e.apart s z hs
    · unfold freeP at z
      rw [decide_eq_true hs, Bool.and_eq_true] at z
      exact absurd z.2 (by decide)
  · rcases h3 p (srt_mem.mp hp) with z | ⟨z, _⟩
    · exact e.rng p z
    · have := rngI_mem.mp z
      omega
theorem sidesL_has (e : Ends2 n src snk) {Y : List Int} (h : Side src snk Y) (hr : ∀ p ∈ Y, 0 ≤ p ∧ p < n) : ∃ X ∈ sidesL n src snk, ∀ x, x ∈ X ↔ x ∈ Y := by
  obtain ⟨X, hX, hx⟩ := sides_all (src := src) (snk := snk) (fun x => decide (x ∈ Y)) (rngI 0 n.toNat)
  refine ⟨srt X, List.mem_map.mpr ⟨X, hX, rfl⟩, fun x => ?_⟩
  rw [srt_mem, hx x, rngI_mem, decide_eq_true_iff]
  constructor
  · rintro (h1 | ⟨_, _, h1⟩)
    · exact h.all x h1
    · exact h1
  · intro hy
    by_cases z : x ∈ src
    · exact .inl z
    · have := hr x hy
      refine .inr ⟨by omega, ?_, hy⟩
      unfold freeP
      rw [decide_eq_false z, decide_eq_false fun m => h.no x m hy]
      rfl
def valF (ts : List Tie) (n : Int) (src snk : List Int) : Int := leastL ((sidesL n src snk).map (cutW ts))
def lightL (ts : List Tie) (n : Int) (src snk : List Int) : List (List Int) := (sidesL n src snk).filter fun X => decide (cutW ts X = valF ts n src snk)
theorem flow_val (hin : TiesIn n ts) (e : Ends2 n src snk) (F : Flowed n ts src snk am) : valF ts n src snk = dotF ts am (indL src) ∧ cutW ts (keysC (bfs0 n ts src am)) = dotF ts am (indL src) := by
  have hR := (light_iff hin F.feas F.kept e.nd F.side).2.mpr F.closed
  refine ⟨?_, hR⟩
  obtain ⟨X, hX, hx⟩ := sidesL_has e F.side F.rng
  have hne : (sidesL n src snk).map (cutW ts) ≠ [] := fun z => by
    rw [List.map_eq_nil_iff] at z
    rw [z] at hX
    cases hX
  obtain ⟨l1, l2⟩ := leastL_ok hne
  have h1 := l2 _ (List.mem_map.mpr ⟨X, hX, rfl⟩)
  rw [cutW_congr hx, hR] at h1
  obtain ⟨Y, hY, eY⟩ := List.mem_map.mp l1
  have h2 := (light_iff hin F.feas F.kept e.nd (sidesL_side e hY).1).1
  unfold valF
  omega
theorem light_mem (hin : TiesIn n ts) (e : Ends2 n src snk) (F : Flowed n ts src snk am) {X : List Int} : X ∈ lightL ts n src snk ↔ X ∈ sidesL n src snk ∧ ClosedS ts am X := by
  unfold lightL
  rw [List.mem_filter, decide_eq_true_iff, (flow_val hin e F).1]
  constructor
  · exact fun ⟨h1, h2⟩ => ⟨h1, (light_iff hin F.feas F.kept e.nd (sidesL_side e h1).1).2.mp h2⟩
  · exact fun ⟨h1, h2⟩ => ⟨h1, (light_iff hin F.feas F.kept e.nd (sidesL_side e h1).1).2.mpr h2⟩
/-- the places of some lightest side -/
theorem wide_some (hin : TiesIn n ts) (e : Ends2 n src snk) (F : Flowed n ts src snk am) : ((rngI 0 n.toNat).filter fun p => (lightL ts n src snk).any fun X => decide (p ∈ X)) = wideL n (backL n ts am snk) := by
  obtain ⟨hb, _⟩ := backL_ok (am := am) hin e.rng2
  have hws := wide_side hin e F hb
  have hwc := wide_closed hin hb
  refine List.filter_congr fun p hp => ?_
  rw [Bool.eq_iff_iff, List.any_eq_true]
  have hpr := rngI_mem.mp hp
  constructor
  · rintro ⟨X, hX, hx⟩
    obtain ⟨h1, h2⟩ := (light_mem hin e F).mp hX
    obtain ⟨g1, g2, _⟩ := sidesL_side e h1
    have := in_wide hin e hb g1 g2 h2 p (of_decide_eq_true hx)
    rw [wide_mem] at this
    rw [decide_eq_false this.2]
    rfl
  · intro h
    have hpw : p ∈ wideL n (backL n ts am snk) := List.mem_filter.mpr ⟨hp, h⟩
    obtain ⟨X, hX, hx⟩ := sidesL_has e hws fun p hp => (wide_mem.mp hp).1
    refine ⟨X, (light_mem hin e F).mpr ⟨hX, fun a ha b hr => (hx b).mpr (hwc a ((hx a).mp ha) b hr)⟩, decide_eq_true ((hx p).mpr hpw)⟩
/-- the places of each lightest side -/
theorem least_each (hin : TiesIn n ts) (e : Ends2 n src snk) (F : Flowed n ts src snk am) : ((rngI 0 n.toNat).filter fun p => (lightL ts n src snk).all fun X => decide (p ∈ X)) = srt (keysC (bfs0 n ts src am)) := by
  refine sorted_eq ((rngI_lt _ _).filter _) (sorted_of (srt_perm _) (srt_le _) F.side.nd) fun p => ?_
  rw [List.mem_filter, rngI_mem, srt_mem, List.all_eq_true]
  constructor
  · rintro ⟨_, h⟩
    obtain ⟨X, hX, hx⟩ := sidesL_has e F.side F.rng
    exact (hx p).mp (of_decide_eq_true (h X ((light_mem hin e F).mpr ⟨hX, fun a ha b hr => (hx b).mpr (F.closed a ((hx a).mp ha) b hr)⟩)))
  · intro hp
    have := F.rng p hp
    refine ⟨by omega, fun X hX => ?_⟩
    obtain ⟨h1, h2⟩ := (light_mem hin e F).mp hX
    exact decide_eq_true (came_in hin e.nd e.rng (sidesL_side e h1).1.all h2 p hp)
/-! #### the other way about -/
theorem Ends2.flip (e : Ends2 n src snk) : Ends2 n snk src := ⟨e.nd2, e.nd, e.rng2, e.rng, fun s hs hm => e.apart s hm hs⟩
def compL (n : Int) (X : List Int) : List Int := (rngI 0 n.toNat).filter fun p => !decide (p ∈ X)
theorem comp_memL {X : List Int} {p : Int} : p ∈ compL n X ↔ (0 ≤ p ∧ p < n) ∧ p ∉ X := wide_mem
theorem comp_side (e : Ends2 n src snk) {X : List Int} (h : Side src snk X) : Side snk src (compL n X) :=
  ⟨(rngI_nd _ _).filter _, fun s hs => comp_memL.mpr ⟨e.rng2 s hs, h.no s hs⟩, fun s hs hm => (comp_memL.mp hm).2 (h.all s hs)⟩
theorem comp_cut (hin : TiesIn n ts) (X : List Int) : cutW ts (compL n X) = cutW ts X := by
  rw [cutW_eq, cutW_eq]
  congr 1
  refine List.map_congr_left fun t ht => ?_
  have hr := hin t ht
  unfold cutT
  have e : ∀ x, 0 ≤ x → x < n → decide (x ∈ compL n X) = !decide (x ∈ X) := fun x h0 h1 => by
    by_cases z : x ∈ X
    · rw [decide_eq_true z, decide_eq_false fun m => (comp_memL.mp m).2 z]
      rfl
    · rw [decide_eq_false z, decide_eq_true (comp_memL.mpr ⟨⟨h0, h1⟩, z⟩)]
      rfl
  rw [e t.1 (by omega) (by omega), e t.2.1 (by omega) (by omega)]
  cases decide (t.1 ∈ X) <;> cases decide (t.2.1 ∈ X) <;> rfl
/-- the flow turned about: of the same weight, its side all that is not in the wide one -/
theorem turned_flow (hin : TiesIn n ts) (e : Ends2 n src snk) (F : Flowed n ts src snk am) {bm : List Int} (G : Flowed n ts snk src bm) :
    cutW ts (srt (keysC (bfs0 n ts snk bm))) = valF ts n src snk ∧ srt (keysC (bfs0 n ts snk bm)) = compL n (wideL n (backL n ts am snk)) := by
  obtain ⟨hb, _⟩ := backL_ok (am := am) hin e.rng2
  have hws := wide_side hin e F hb
  have hwc := wide_closed hin hb
  obtain ⟨v1, v2⟩ := flow_val hin e F
  obtain ⟨u1, u2⟩ := flow_val hin e.flip G
  have hw : cutW ts (wideL n (backL n ts am snk)) = dotF ts am (indL src) := (light_iff hin F.feas F.kept e.nd hws).2.mpr hwc
  -- both are least
  have a1 := (light_iff hin G.feas G.kept e.nd2 (comp_side e F.side)).1
  rw [comp_cut hin, v2] at a1
  have a2 := (light_iff hin F.feas F.kept e.nd (comp_side e.flip G.side)).1
  rw [comp_cut hin, u2] at a2
  have hv : dotF ts am (indL src) = dotF ts bm (indL snk) := by omega
  have hsame : cutW ts (srt (keysC (bfs0 n ts snk bm))) = dotF ts bm (indL snk) := by rw [cutW_congr (fun x => srt_mem), u2]
  refine ⟨by rw [hsame, v1, hv], ?_⟩
  refine sorted_eq (sorted_of (srt_perm _) (srt_le _) G.side.nd) ((rngI_lt _ _).filter _) fun p => ?_
  rw [srt_mem]
  constructor
  · -- the reverse side lies in each of its lightest
    intro hp
    have hc2 : ClosedS ts bm (compL n (wideL n (backL n ts am snk))) := (light_iff hin G.feas G.kept e.nd2 (comp_side e hws)).2.mp (by rw [comp_cut hin, hw, hv])
    exact came_in hin e.nd2 e.rng2 (comp_side e hws).all hc2 p hp
  · intro hp
    refine Classical.byContradiction fun hn => ?_
    have hpr := (comp_memL.mp hp).1
    have hc3 : ClosedS ts am (compL n (keysC (bfs0 n ts snk bm))) := (light_iff hin F.feas F.kept e.nd (comp_side e.flip G.side)).2.mp (by rw [comp_cut hin, u2, hv])
    exact (comp_memL.mp hp).2 (in_wide hin e hb (comp_side e.flip G.side) (fun q hq => (comp_memL.mp hq).1) hc3 p (comp_memL.mpr ⟨hpr, hn⟩))
end
end Pw

/-! ## PwN2 -/
namespace Pw
open PySem L2 Evl
section
variable {F : Fr} {K : PySem.W.Frag} {Γ : En0} {i j : Nat} {v : V} {d d' : PyData} {ds es : List PyData} {te ta tb tl tc td ty : TE} {tt tu : TT} {tA : TA} {wi wi1 wi2 : TI} {g : TG} {R R' : V → Hp → Prop} {b b' : Bool}
theorem n_catQ (ha : EE K ta Γ (.list ds)) (hb : EE K tb Γ (.list es)) (hl : ds.length + es.length ≤ 100000) : EE K (tOp (rCatQ K) ta tb) Γ (.list (ds ++ es)) := fun σ B e => ev_catQ (ha σ B e) (hb σ B e) hl
theorem n_srt {ns : List Int} (h : EE K te Γ (.list (ns.map .int))) : EE K (tCB (rSortedI K) (tCons te tNil)) Γ (.list ((srt ns).map .int)) := fun σ B e => ev_srt (h σ B e)
theorem n_rev (h : EE K te Γ (.list ds)) : EE K (tRevL K te) Γ (.list ds.reverse) := fun σ B e => ev_revL (h σ B e)
theorem n_listRg {j : Int} (h : EE K ta Γ (.int j)) (hj : -100000 ≤ j ∧ j ≤ 100000) : EE K (tCB rListRng (tCons (tCB rRng1 (tCons ta tNil)) tNil)) Γ (.list ((rngI 0 j.toNat).map .int)) := fun σ B e => ev_listrange (h σ B e) hj
theorem n_tupleRg {n : Int} (h : EE K ta Γ (.int n)) (hn : 0 ≤ n ∧ n ≤ 100000) : EE K (tTupRg (tRg1 ta)) Γ (.tuple ((rngI 0 n.toNat).map .int)) := fun σ B e => ev_tupRg (h σ B e) hn
theorem n_minL {ns : List Int} (h : EE K te Γ (.list (ns.map .int))) (hn : ns ≠ []) : EE K (tCB (rMin K) (tCons te tNil)) Γ (.int (leastL ns)) := fun σ B e => ev_minL (h σ B e) hn
theorem n_isN (h : EE K ta Γ d) (hb : (tyN d == "NoneType") = b) : EE K (tOp rIsNs ta (tC .non)) Γ (.bool b) := fun σ B e => ev_isN (h σ B e) hb
theorem n_notN (h : EE K ta Γ d) (hb : (tyN d == "NoneType") = b) : EE K (tOp rNotNs ta (tC .non)) Γ (.bool (!b)) := fun σ B e => ev_notN (h σ B e) hb
theorem nw_orl (h : EW K wi1 Γ ds) : EW K (fun σ H R => wi1 σ H R ∨ wi2 σ H R) Γ ds := fun σ B e S H w R k => .inl (h σ B e S H w R k)
theorem nw_orr (h : EW K wi2 Γ ds) : EW K (fun σ H R => wi1 σ H R ∨ wi2 σ H R) Γ ds := fun σ B e S H w R k => .inr (h σ B e S H w R k)
theorem zipD_map {α β : Type} (e1 : α → PyData) (e2 : β → PyData) (xs : List α) (ys : List β) : zipD (xs.map e1) (ys.map e2) = (xs.zip ys).map fun p => .tuple [e1 p.1, e2 p.2] := by
  unfold zipD
  rw [List.zip_map, List.map_map]
  rfl
theorem nw_zip {α β : Type} {e1 : α → PyData} {e2 : β → PyData} {xs : List α} {ys : List β} {t u : Bool} (h : EA K tA Γ [seqD t (xs.map e1), seqD u (ys.map e2)]) : EW K (iZipO t u K tA) Γ ((xs.zip ys).map fun p => .tuple [e1 p.1, e2 p.2]) :=
  nw_is (fun σ B e => wk_zipO (h σ B e)) (zipD_map e1 e2 xs ys)
/-- the one or the other a list or a tuple -/
theorem nw_zipSF {α β : Type} {e1 : α → PyData} {e2 : β → PyData} {xs : List α} {ys : List β} {t u : Bool} (h : EA K tA Γ [seqD t (xs.map e1), seqD u (ys.map e2)]) : EW K (fun σ H R => iZipO false u K tA σ H R ∨ iZipO true u K tA σ H R) Γ ((xs.zip ys).map fun p => .tuple [e1 p.1, e2 p.2]) := by
  cases t with
  | false => exact nw_orl (nw_zip h)
  | true => exact nw_orr (nw_zip h)
theorem nw_zipFS {α β : Type} {e1 : α → PyData} {e2 : β → PyData} {xs : List α} {ys : List β} {t u : Bool} (h : EA K tA Γ [seqD t (xs.map e1), seqD u (ys.map e2)]) : EW K (fun σ H R => iZipO t false K tA σ H R ∨ iZipO t true K tA σ H R) Γ ((xs.zip ys).map fun p => .tuple [e1 p.1, e2 p.2]) := by
  cases u with
  | false => exact nw_orl (nw_zip h)
  | true => exact nw_orr (nw_zip h)
theorem enumD_map {α : Type} (e1 : α → PyData) (xs : List α) : enumD (xs.map e1) = (xs.zipIdx).map fun p => .tuple [.int (p.2 : Nat), e1 p.1] := by
  unfold enumD
  rw [List.zipIdx_map, List.map_map]
  rfl
theorem nw_enum {α : Type} {e1 : α → PyData} {xs : List α} {t : Bool} (h : EA K tA Γ [seqD t (xs.map e1)]) : EW K (iEnumO t K tA) Γ ((xs.zipIdx).map fun p => .tuple [.int (p.2 : Nat), e1 p.1]) := nw_is (fun σ B e => wk_enumO (h σ B e)) (enumD_map e1 xs)
theorem nw_enumS {α : Type} {e1 : α → PyData} {xs : List α} {t : Bool} (h : EA K tA Γ [seqD t (xs.map e1)]) : EW K (fun σ H R => iEnumO false K tA σ H R ∨ iEnumO true K tA σ H R) Γ ((xs.zipIdx).map fun p => .tuple [.int (p.2 : Nat), e1 p.1]) := by
  cases t with
  | false => exact nw_orl (nw_enum h)
  | true => exact nw_orr (nw_enum h)
theorem nw_slS {t : Bool} {tl th : TO} {lo hi : Option Int} (h : EE K te Γ (seqD t ds)) (hl : EPt K tl Γ lo) (hh : EPt K th Γ hi) : EW K (fun σ H R => iList K (tSl (rSlL K) te tl th) σ H R ∨ iTup K (tSl (rSlA K) te tl th) σ H R) Γ (cutA ds lo hi) := fun σ B e => wk_slS (h σ B e) (hl σ B e) (hh σ B e)
end
end Pw

/-! ## PwSet -/
namespace Pw
open PySem PySem.Spec PyProof.Rows L2 Evl

/-! ### set(xs), xs a list of ints, as sorted asks for it -/
/-- a set as it is begun -/
abbrev bare (w : World) : Obj := { cls := .type "set", dict := none, data := .set #[] 0 (.fresh 0 0 (!w.params.followText "set-order")) }
/-- what is told of the set made of some ints -/
def MadeOf (w : World) (s : Shared) (ns : List Int) (g : Heap) : Prop := ∃ c, SetR w g s.heap.objs.size (fun j => decide (j ∈ ns)) c ∧ c ≤ ns.length ∧ ∀ b o, s.heap.get? b = some o → g.get? b = some o
section
variable {P : Program} {w : World} {A : Around} {E : Value → Shared → Prop} {s : Shared}
/-- ints put to a set that is begun -/
theorem put_all {xs : Array Value} {ns : List Int} {l I S : Addr} {R : Result → Shared → Prop} (hh : A.in1.handled = none) (h : s.heap.IsList l xs) (hlI : l ≠ I) (hS : S ∉ [I, l]) (hI : s.heap.IsListIter I l 0)
    (hx : IntsAre xs.toList ns) (few : ns.length + 1 < scanBound) (hn : s.heap.get? S = some (bare w))
    (q : ∀ g c, Moved [S, I] (fun a b => b = a) s g → SetR w g.heap S (fun j => decide (j ∈ ns)) c → c ≤ ns.length → R (.ok (.ret .none)) g) :
    codeAny (model P w) A (.builtin "set.update.loop" ⟨[.ref S, .ref I], []⟩) R s := by
  have sz : xs.size = ns.length := (Array.length_toList).symm.trans (IntsAre.length hx)
  refine set_update_ints ((Walks.list hh I l hlI xs).toS) S hS ns sz few (fun i v hv => ?_) (xs.size - 0) 0 s rfl (Nat.zero_le _) ⟨hI, h⟩ ⟨0, Nat.le_refl 0, setR_new_at hn⟩ fun g c m hc hR => ?_
  · obtain ⟨t, e⟩ := IntsAre.int_at hx i v (by rw [Array.getElem?_toList]; exact hv)
    have hi : i < ns.length := by rw [← sz]; exact (Array.getElem?_eq_some_iff.mp hv).1
    exact ⟨_, t, List.getElem?_eq_getElem hi, by rw [e, List.getD_eq_getElem?_getD, List.getElem?_eq_getElem hi]; rfl⟩
  · exact q g c m hR (by rw [← sz]; exact hc)
/-- set(xs) -/
theorem set_made {l : Addr} {xs : Array Value} {ns : List Int} {Q : Value → Shared → Prop} (hh : A.handled = none) (hl : s.heap.IsList l xs) (hx : IntsAre xs.toList ns) (few : ns.length + 1 < scanBound)
    (q : ∀ g tk, MadeOf w s ns g → Q (.ref s.heap.objs.size) { s with heap := g, toks := tk }) : wpAny (model P w) A (call (.type "set") [.ref l]) Q E s := by
  have ⟨_, _, hmro⟩ := F.called_set.mro
  have m1 := F.called_set.made
  have m2 := F.called_set.sub
  refine wpAny_call (codeAny_of_tree ?_)
  show wpAny _ _ (callAny (.type "set") _) _ _ _
  refine wpAny_pure ⟨Code.quiet_builtin _ (by decide +kernel), codeAny_builtin F.entry_type_call ?_⟩
  rw [Around.under_plain (weight_type_call_type "set" [.ref l] []) rfl]
  have m3 := F.called_set.notType
  have m4 := F.called_set.canCreate
  have m5 := F.typeCall_set_1 (.ref l)
  repeat (any_goals (first | assumption | wp_step))
  refine codeAny_mono (code_set_led1 (.ref l) (E := E) (Q₁ := fun v g => v = .ref s.heap.objs.size ∧ g = { s with heap := s.heap.push (bare w) }) ⟨rfl, rfl⟩) fun r g hr => ?_
  match r, hr with
  | .error e, hr => exact hr
  | .ok (.ret v), hr =>
    obtain ⟨rfl, rfl⟩ := hr
    have at_ : (s.heap.push (bare w)).get? s.heap.objs.size = some (bare w) := Heap.get?_push_size _ rfl
    have ty : Shared.TypeIs { s with heap := s.heap.push (bare w) } (.ref s.heap.objs.size) "set" := ⟨_, at_, rfl⟩
    have m6 := F.called_set.init.lookup
    have m7 := F.called_set.init.bind (.ref s.heap.objs.size)
    repeat (any_goals (first | assumption | wp_step))
    refine codeAny_mono (codeAny_call_builtin (R := wants (fun r g => r = .none ∧ ∃ hp tk, g = { s with heap := hp, toks := tk } ∧ MadeOf w s ns hp) E) F.called_set.init.plain F.entry_set_init (check_set_init_1 ty ?_)) fun r2 g2 hr2 => ?_
    · have hl1 : (s.heap.push (bare w)).IsList l xs := hl.push _
      have lt : l < s.heap.objs.size := by
        obtain ⟨o, ho, _⟩ := hl
        exact Heap.lt_size ho
      have len1 : (s.heap.push (bare w)).objs.size = s.heap.objs.size + 1 := Heap.size_push ..
      obtain ⟨o, ho, hc, no, hd⟩ := id hl1
      obtain ⟨oc, od, oo, os⟩ := o
      simp only at hc hd
      subst hc; subst hd
      have m8 := F.sub_list_set
      have m9 := F.sub_list_frozenset
      have m10 : (Value.type "list" == Value.type "dict") = false := by decide
      unfold Builtin.«set.__init__» noKeywords Builtin.Frozenset.updateFrom
      generalize hp : pyIter = pI
      wp_walk
      subst hp
      refine wpAny_pyIter_list hl1 ?_
      refine wpAny_bind (wpAny_runValue ?_)
      refine put_all (by simp [hh]) (hl1.push _) (fun z => ?_) (fun z => ?_) ⟨_, Heap.get?_push_size _ rfl, rfl, rfl⟩ hx few (Heap.get?_push_of_some _ at_) fun g c m hR hc => ?_
      · exact Nat.ne_of_lt (Nat.lt_succ_of_lt lt) (z.trans len1)
      · rcases List.mem_cons.mp z with z | z
        · exact Nat.ne_of_lt (Nat.lt_succ_self _) (z.trans len1)
        · exact Nat.ne_of_gt lt (List.mem_singleton.mp z)
      · obtain ⟨h2, g2, d2, t2, o2⟩ := g
        obtain rfl : g2 = s.gens := m.gens
        obtain rfl : d2 = s.drawn := m.drawn
        obtain rfl : o2 = s.os := m.os
        show wpAny _ _ _ _ _ _
        refine wpAny_pure ?_
        show wpAny _ _ (ret Value.none) _ _ _
        refine wpAny_pure ⟨rfl, h2, t2, rfl, c, hR, hc, fun b o e => m.heap b o (fun z => ?_) (Heap.get?_push_of_some _ (Heap.get?_push_of_some _ e))⟩
        have bl := Heap.lt_size e
        rcases List.mem_cons.mp z with z | z
        · exact Nat.ne_of_lt bl z
        · exact Nat.ne_of_lt (Nat.lt_succ_of_lt bl) ((List.mem_singleton.mp z).trans len1)
    · match r2, hr2 with
      | .error e, hr2 => exact hr2
      | .ok (.ret r), hr2 =>
        obtain ⟨rfl, hp, tk, rfl, hm⟩ := hr2
        repeat (any_goals (first | assumption | wp_step))
        exact q _ _ hm
end
/-! ### the rule, what evaluates -/
def rSetIL (K : PySem.W.Frag) (w : World) : List V → Hp → VK → Prop := fun xs H Q => ∃ (l : Addr) (ns : List Int), xs = [V.ref l] ∧ SqL K H l (ns.map V.int) ∧ ns.length ≤ 4000 ∧
  ∀ a n, H a = none → n ≤ ns.length → Q (.ref a) (upd H a (SetO w a (fun j => decide (j ∈ ns)) n))
theorem cr_setIL {X : Cx} (hc : X.calm = true) : CallR X (.type "set") (rSetIL X.K X.w) := by
  intro pins s σ H xs us Q I r h
  obtain ⟨l, ns, rfl, hq, few, q⟩ := h
  rw [Vals.ref1 r]
  obtain ⟨its, rv, pl, _⟩ := I.list hq
  refine set_made (I.ok.hd hc) pl.isList (ns := ns) (by simpa using rv.ints) (by show ns.length + 1 < 4096; omega) fun g tk ⟨n, hR, hn, hk⟩ => ?_
  exact ⟨.ref s.heap.objs.size, _, I.laid (t' := tk) hk (Nat.le_refl _) (setO_new hR), rfl, q _ n (I.hok.fresh (Nat.le_refl _)) hn⟩
section
variable {K : PySem.W.Frag} {σ : L2.St} {B : Hp} {te : TE} {w : World}
/-- sorted(set(xs)) -/
theorem ev_sortSet {ns ds : List Int} (h : EvD K te σ B (.list (ns.map .int))) (hl : ns.length < 64) (hd : ds.Pairwise (· < ·)) (hm : ∀ k, k ∈ ds ↔ k ∈ ns) :
    EvD K (tCB (rSortedSet w) (tCons (tCB (rSetIL K w) (tCons te tNil)) tNil)) σ B (.list (ds.map .int)) :=
  evR_of (fun S H w1 Q q => h.bind w1 fun x B1 H1 e1 eB1 w1 rx => by
    cases rx with
    | @lst a xs _ hs hdd =>
    have e := DqAll.ints_eq hdd
    subst e
    refine ⟨a, ns, rfl, ex_l w1.ex hs, by omega, fun o n ho hn => ?_⟩
    refine ⟨o, _, n, rfl, upd_same, by omega, fun ds2 p g1 g2 _ hp => ?_⟩
    have e2 : ds2 = ds := sorted_eq g1 hd fun k => by rw [g2, hm, decide_eq_true_iff]
    subst e2
    have w2 := w1.ext (Ex.new (o := SetO w o (fun j => decide (j ∈ ns)) n) ho)
    exact q (.ref p) _ _ (e1.trans ((Ex.new ho).trans (Ex.new hp))) (eB1.trans (w2.newE (o := .lst (ds2.map V.int)) hp)) (w2.new hp) (.lst (sq_of upd_same) DqAll.ints)) stays_dp
end
end Pw

/-! ## PwG -/
namespace Pw
open PySem PySem.Spec PyProof.Rows L2 Evl

/-! ### promises of defs that may show what they hold: no guard stands around -/
structure FnG (P : Program) (w : World) (K : PySem.W.Frag) (mg : Str → Option Value) (base : Heap) (k : Nat) (f : Addr) (fd : FuncData) (ps : List Str) (sp : Sp) : Prop where
  ar : ∀ {vs : List V} {H : Hp} {Q : VK} {E : XK}, sp vs H Q E → vs.length = ps.length
  go : ∀ {A : Around} {out : List Env} {s : Shared} {H : Hp} {as : Args} {us : List Value} {vs : List V} {Q : VK} {E : XK}, A.guards = some [] → Room k A → Env0 P w K mg base A out s H →
    BindsTo s fd as (ps.zip us) → Vals vs us → sp vs H Q E → codeAny (model P w) A (.call (.ref f) as) (CR CX0 out P w H s Q E) s
section
variable {P : Program} {w : World} {K : PySem.W.Frag} {mg : Str → Option Value} {base : Heap} {f : Addr} {fd : FuncData} {N ps : List Str} {k j : Nat} {sp sp' : Sp} {qual x : Str} {st : Stmt}
theorem FnG.mono (F : FnG P w K mg base j f fd ps sp) (h : j ≤ k) : FnG P w K mg base k f fd ps sp := ⟨F.ar, fun g r => F.go g (r.mono h)⟩
theorem FnG.imp (F : FnG P w K mg base k f fd ps sp) (h : ∀ vs H Q E, sp' vs H Q E → sp vs H Q E) : FnG P w K mg base k f fd ps sp' :=
  ⟨fun q => F.ar (h _ _ _ _ q), fun g r e b v q => F.go g r e b v (h _ _ _ _ q)⟩
theorem fnG_of (F : FnOk P w K mg base CX0 k f fd ps sp) : FnG P w K mg base k f fd ps sp := ⟨fun q => F.len _ _ _ _ q, fun _ r e b v q => F.run _ _ _ _ _ _ _ _ _ r e b v q⟩

/-- what a body must show, at one entry -/
abbrev Body (P : Program) (w : World) (K : PySem.W.Frag) (mg : Str → Option Value) (base : Heap) (N : List Str) (x : Str) (st : Stmt) (f : Addr) (cd : Value) (A : Around) (out : List Env) (s : Shared) (H : Hp) (vs : List V) (Q : VK) (E : XK) : Prop :=
  ∃ t, PSs (cxOf CX0 P w K mg base N x (defScope st) f cd A out s H E).nox (defBody st) t ∧ t { nx := fun _ H' => Q .non H', rt := Q } (L2.start N vs) H
theorem _root_.L2.Fun.okG (F : Fun K x qual st f fd) (S : FnScope N ps (defScope st)) (ar : ∀ vs H Q E, sp vs H Q E → vs.length = ps.length)
    (hb : ∀ cdv A out s H vs Q E, Room k (A.deeper (envOfC qual (defScope st) s.heap.objs.size f cdv)) → A.guards = some [] → sp vs H Q E → Body P w K mg base N qual st f cdv A out s H vs Q E) :
    FnG P w K mg base (k + 1) f fd ps sp := by
  obtain ⟨oc, od, kV, doc, pm, an, cd, ct, osl, rfl, lk, hc⟩ := F.ex
  refine ⟨fun q => ar _ _ _ _ q, ?_⟩
  intro A out s H as us vs Q E hg hr e0 hbt hv hsp
  have inS : ∀ b o, base.get? b = some o → s.heap.get? b = some o := fun b o e => (e0.bs b o e).1
  have inK : K.In s.heap := e0.mod.kin.keeps inS
  refine codeAny_call_function hr.depth (inK _ _ lk) rfl S.co S.gen rfl (PySem.W.codeRec_of inK hc) (hbt _ _ _ _ (wpAny_newFunctionEnv_cells S.kind (fun y hy => ?kinds) fun env he s1 nw => ?body))
  case kinds =>
    rcases S.par y.1 (List.of_mem_zip (show (y.1, y.2) ∈ ps.zip us from hy)).1 with q | q
    · exact Or.inl q
    · exact Or.inr ⟨q, PySem.W.cellsFrom_some _ _ _ (Or.inl q)⟩
  case body =>
    subst he
    refine ⟨(e0.mod.nolimit.keeps inS).keeps nw.toInCall.keep, codeAny_func ?_⟩
    obtain ⟨t, ht, hq⟩ := hb cd A out s H vs Q E (hr.deeper _) hg hsp
    have J0 : Inv (cxOf CX0 P w K mg base N qual (defScope st) f cd A out s H E) [] (L2.start N vs) H s1 := inv_start S hr.hd e0 (ar _ _ _ _ hsp) hv nw
    refine wpAny_mono (ht.nox.run [] s1 (L2.start N vs) H _ J0 hq) (fun fl s2 h2 => ?_) fun e s2 h2 => h2
    cases fl with
    | next => exact let ⟨σ', H', J, q⟩ := h2; ⟨V.non, H', J.os, J.bare, J.base, J.hok, rfl, q⟩
    | ret u => exact let ⟨v, σ', H', J, rv, q⟩ := h2; ⟨v, H', J.os, J.bare, J.base, J.hok, rv, q⟩
    | brk => exact h2.elim fun _ h => h.elim fun _ h => False.elim h.2
    | cont => exact h2.elim fun _ h => h.elim fun _ h => False.elim h.2
end

/-! ### their calls -/
section
variable {X : Cx} {k : Nat} {f : Addr} {fd : FuncData} {ps : List Str} {sp : Sp} {E : XK} {x : Str} {p pos : Pos} {e : Expr} {es : List Expr} {t : TA}
theorem goes {pins : List (Addr × Obj)} {σ : L2.St} {H : Hp} {s : Shared} {Q : VK} {us : List Value} {vs : List V} (F : FnG X.prog X.w X.K X.mg X.base k f fd ps sp) (hg : X.A.guards = some []) (hr : Room k X.A) (hb : Binds X.K fd ps [])
    (I : Inv X pins σ H s) (rv : Vals vs us) (h : sp (vs ++ []) H Q E) : wpAny (model X.prog X.w) X.A (call (.ref f) us) (EP X pins σ Q) X.xe s := by
  rw [List.append_nil] at h
  have bt := hb s us I.kIn (by rw [List.append_nil, ← rv.length]; exact F.ar h)
  rw [List.append_nil] at bt
  refine wpAny_call (codeAny_mono (F.go (as := ⟨us, []⟩) hg hr I.env0 bt rv h) fun o s2 h2 => ?_)
  rcases o with e | fl
  · exact False.elim (show False from h2)
  · cases fl with
    | ret u => exact I.after h2
    | next => exact h2.elim
    | brk => exact h2.elim
    | cont => exact h2.elim
theorem pe_callG (F : FnG X.prog X.w X.K X.mg X.base k f fd ps sp) (hg : X.A.guards = some []) (hr : Room k X.A) (gl : Gl X x) (hm : X.mg x = some (.ref f)) (hk : PySem.W.keepIn X.K (.ref f) = true) (hb : Binds X.K fd ps [])
    (ha : PA X (e :: es) t) (hdb : (x == ("__debug__" : Str)) = false := by decide) (he : starEach (e :: es) X.env = (false, eval e X.env) :: starEach es X.env := by rfl) (hpl : (backTo pos (starEach es X.env)).any (·.1) = false := by rfl) :
    PE X (.Call (.Name x p) (e :: es) [] pos) (tCall sp [] E0 t) :=
  ⟨fun pins s σ H Q I h => wpAny_Call_Name_kw (ld_glob I gl hm (PySem.W.callWith_K (h₀ := X.base) I.ok.mod.kin hk (thn (ha.run pos pins s σ H _ I h) fun us s1 ⟨vs, H1, I1, r, q⟩ => ⟨I1.kIn, goes F hg hr hb I1 r q⟩) he hpl) hdb)⟩
end

/-! ### the law's own def -/
section
variable {P : Program} {w : World} {K : PySem.W.Frag} {mg mb : Str → Option Value} {k : Nat} {fa a : Addr} {fd : FuncData} {x : Str} {sp : Sp} {s₁ : Shared} {vs : List Value} {ns : List Int}
/-- the heap that is told of the script -/
def ofScript (K : PySem.W.Frag) (a : Addr) (o : Obj) (xs : List V) : Hp := fun b => if b = a ∧ K.lookup a = none then some (.frz o (.lst xs)) else none
theorem ofScript_only {o : Obj} {xs : List V} : Only (ofScript K a o xs) := fun b => by
  unfold ofScript
  by_cases c : b = a ∧ K.lookup a = none
  · exact Or.inr ⟨o, xs, if_pos c⟩
  · exact Or.inl (if_neg c)
theorem ofScript_at {o : Obj} {xs : List V} {b : Addr} {u : HO} (h : ofScript K a o xs b = some u) : b = a ∧ K.lookup a = none ∧ u = .frz o (.lst xs) := by
  unfold ofScript at h
  by_cases c : b = a ∧ K.lookup a = none
  · rw [if_pos c] at h
    exact ⟨c.1, c.2, (Option.some.inj h).symm⟩
  · rw [if_neg c] at h
    cases h
theorem law_goes (KX : K.In s₁.heap) (hns : s₁.heap.Ns mainGlobals mg) (hb : s₁.heap.Ns builtinsNs mb) (hbb : ∀ x : Str, x ≠ "__name__" → mb x = bootBuiltins x) (hlim : s₁.heap.NoLimit) (hgn : s₁.gens = #[])
    (ha : s₁.heap.get? a = some { cls := .type "list", data := .seq vs.toArray }) (hi : IntsAre vs ns) (hl : ns.length ≤ sizeLine) (hr : Room k callerA)
    (F : ∀ base : Heap, K.In base → base.Ns mainGlobals mg → FnG P w K mg base k fa fd [x] sp) (hbind : ∀ (s : Shared) (u : Value), BindsTo s fd ⟨[u], []⟩ [(x, u)])
    (hsp : ∀ H : Hp, Only H → SqL K H a (ns.map V.int) → sp [.ref a] H (fun v _ => v = .bl true) fun _ _ _ => False) :
    codeAny (model P w) callerA (.call (.ref fa) ⟨[.ref a], []⟩) (fun r s' => r = .ok (.ret (.bool true)) ∧ OldK s₁.heap s'.heap ∧ s'.os = s₁.os ∧ AllBare s'.gens) s₁ := by
  have rv := vals_ints hi
  obtain ⟨oS, eS⟩ : ∃ o : Obj, o = { cls := .type "list", data := .seq vs.toArray } := ⟨_, rfl⟩
  rw [← eS] at ha
  generalize hH : ofScript K a oS (ns.map V.int) = H
  have tells : ∀ {b u}, H b = some u → b = a ∧ K.lookup a = none ∧ u = .frz oS (.lst (ns.map V.int)) := fun {b u} h => by rw [← hH] at h; exact ofScript_at h
  have noDict : ∀ {b : Addr} {o : Obj} {es : Array DictEntry} {ep : Nat}, s₁.heap.get? b = some o → o.data = .dict es ep → H b = none := fun {b o es ep} e d => by
    cases z : H b with
    | none => rfl
    | some u =>
      rw [(tells z).1, ha] at e
      cases e
      rw [eS] at d
      exact nomatch d
  have hid : ∀ {b : Addr} {m : Str → Option Value}, s₁.heap.Ns b m → (hidT s₁.heap H).Ns b m := fun ⟨o, es, ep, e, d, rest⟩ => ⟨o, es, ep, hidT_get e (noDict e d), d, rest⟩
  have hok : HOk P w H s₁.heap := fun b u z => by
    obtain ⟨e1, _, e2⟩ := tells z
    subst e1 e2
    refine ⟨ha, by rw [List.length_map]; exact hl, vs, oS.dict.elim 0 fun _ => 0, rv, ?_⟩
    rw [ha, eS]
    rfl
  have kIn : K.In (hidT s₁.heap H) := fun b o e => hidT_get (KX b o e) (by
    cases z : H b with
    | none => rfl
    | some u =>
      obtain ⟨e1, e2, _⟩ := tells z
      rw [e1, e2] at e
      cases e)
  have seq : SqL K H a (ns.map V.int) := by
    cases hk : K.lookup a with
    | none =>
      refine Or.inl (Or.inr ⟨oS, ?_⟩)
      rw [← hH]
      exact if_pos ⟨rfl, hk⟩
    | some o =>
      have e := (KX a o hk).symm.trans ha
      cases e
      refine Or.inr ⟨oS, vs.toArray, 0, hk, by rw [eS], by rw [eS], by rw [eS], ?_, by simpa using rv⟩
      rw [List.size_toArray, hi.length]
      exact hl
  have e0 : Env0 P w K mg (hidT s₁.heap H) callerA [] s₁ H :=
    { frames := rfl, mod := ⟨kIn, hid hns, ⟨mb, hid hb, hbb⟩, hlim.elim fun m h => ⟨m, hid h.1, h.2⟩⟩, bs := fun b o e => of_hidT e, bsz := Nat.le_of_eq (hidT_size _ _), funs := trivial, frf := (fun b m => by cases m), hok := hok, bare := .of_eq hgn }
  have only : Only H := by rw [← hH]; exact ofScript_only
  refine codeAny_mono ((F _ kIn (hid hns)).go (as := ⟨[.ref a], []⟩) (us := [.ref a]) (vs := [.ref a]) rfl hr e0 (hbind s₁ _) (.cons rfl .nil) (hsp H only seq)) fun o s2 h2 => ?_
  rcases o with e | fl
  · exact False.elim (show False from h2)
  cases fl with
  | next => exact h2.elim
  | brk => exact h2.elim
  | cont => exact h2.elim
  | ret u =>
    obtain ⟨v, H2, os, bare, un, hok2, rel, q⟩ := h2
    have ev : v = .bl true := q
    rw [ev] at rel
    have eu : u = Value.bool true := rel
    rw [eu]
    refine ⟨rfl, OldK.of_keep fun b o e => ?_, os, bare⟩
    cases z : H b with
    | none => exact un.keep b o e z (fun m => by cases m) (fun m => by cases m)
    | some u =>
      obtain ⟨_, _, e2⟩ := tells z
      have z2 := un.frzs b oS _ (by rw [z, e2])
      obtain ⟨g1, _⟩ := hok b (.frz oS (.lst (ns.map V.int))) (by rw [z, e2])
      rw [e] at g1
      cases g1
      obtain ⟨g2, _⟩ := hok2 b (.frz oS (.lst (ns.map V.int))) z2
      rw [← Option.some.inj (ha.symm.trans ((congrArg s₁.heap.get? (tells z).1).symm.trans e))] at g2 ⊢
      exact g2
end
theorem walkG {l : PySem.W.OpenLaw} {n k : Nat} {q : Program} {loose : List Str} {XP : (Str → Option Value) → Heap → Prop} {YP : World → Heap → Prop} {d : DefRec} {K : Params → PySem.W.Frag} {sp : World → Sp} {x : Str}
    (hn : l.most = some n) (hn2 : n ≤ sizeLine) (hdf : d.params.defaults = []) (hr : Room k callerA) (hY : ∀ (w : World) (h : Heap), YP w h → (K w.params).In h)
    (F : ∀ (w : World) (mg : Str → Option Value) (fa : Addr) (h : Heap), (K w.params).In h → h.Ns mainGlobals mg → mg d.name = some (.ref fa) →
      ∃ fd : FuncData, (∀ (s : Shared) (u : Value), BindsTo s fd ⟨[u], []⟩ [(x, u)]) ∧ ∀ base : Heap, (K w.params).In base → base.Ns mainGlobals mg → FnG l.prog w (K w.params) mg base k fa fd [x] (sp w))
    (hsp : ∀ (w : World) (H : Hp) (a : Addr) (ns : List Int), ns.length ≤ n → Only H → SqL (K w.params) H a (ns.map V.int) → sp w [.ref a] H (fun v _ => v = .bl true) fun _ _ _ => False) :
    PySem.W.WalkO q loose XP YP l.row.toRowW d [] (fun f vs => PySem.call f vs) :=
  Att.attach_call hn hdf fun w s₀ s₁ mg mb fa o pm cd doc a vs ns G Y ho hd hcd hmg hobj hints hlen hgn => by
    obtain ⟨fd, hbd, hF⟩ := F w mg fa _ (hY w _ Y) G.T.g hmg
    exact law_goes (hY w _ Y) G.T.g G.T.b G.T.builtins G.T.nolimit hgn hobj hints (Nat.le_trans hlen hn2) hr hF hbd fun H hO hS => hsp w H a ns hlen hO hS
end Pw

/-! ## PwStr -/
namespace Pw
open PySem PySem.Spec PyProof.Rows L2 Evl

/-! ### str(x) of lists and tuples -/
def rStrD (K : PySem.W.Frag) : List V → Hp → VK → Prop := fun vs H Q => ∃ a d, vs = [V.ref a] ∧ Dp K H (.ref a) d ∧ d.showable = true ∧ d.hasDict = false ∧ d.depth ≤ 50 ∧ d.shown.length ≤ sizeLine ∧ Q (.str d.shown) H
theorem cr_strD {X : Cx} (hg : X.A.guards = some []) (hu : X.A.units + 64 < cLine) : CallR X (.type "str") (rStrD X.K) := by
  intro pins s σ H vs us Q I r h
  obtain ⟨a, d, rfl, hd, h1, h2, h3, h4, q⟩ := h
  obtain ⟨u, rfl, ru⟩ := vals1 r
  cases ru
  obtain ⟨as, rd⟩ := Dp.reads I d (.ref a) (.ref a) hd rfl
  exact str_of_reads rd h1 (fun z => by rw [h2] at z; cases z) hg (by omega) (fun b o e => e) (fun h' u tk hk => ⟨.str d.shown, H, I.kept (t' := tk) hk, ⟨u, rfl⟩, q⟩) h4

/-- what can be shown, not deep, in so many signs -/
structure Sh (n m : Nat) (d : PyData) : Prop where
  sw : d.showable = true
  nd : d.hasDict = false
  dp : d.depth ≤ n
  ln : d.shown.length ≤ m
section
variable {n m n' m' l : Nat} {d : PyData} {xs : List PyData}
theorem Sh.more (h : Sh n m d) (hn : n ≤ n') (hm : m ≤ m') : Sh n' m' d := ⟨h.sw, h.nd, Nat.le_trans h.dp hn, Nat.le_trans h.ln hm⟩
theorem sh_int {i : Int} (h : i.natAbs < 10 ^ 40) : Sh 1 41 (.int i) := by
  refine ⟨?_, rfl, by simp [PyData.depth], ?_⟩
  · show decide (i.natAbs.log2 < 1920) = true
    refine decide_eq_true ?_
    by_cases z : i.natAbs = 0
    · rw [z]; decide
    · exact Nat.lt_trans ((Nat.log2_lt (k := 200) z).mpr (Nat.lt_trans h (by decide))) (by decide)
  · show (PySem.Str.ofString (toString i)).length ≤ 41
    rw [PySem.ofString_length]
    exact int_text_length_le10 (k := 40) (by decide) h
theorem sh_non : Sh 1 5 .none := ⟨rfl, rfl, by simp [PyData.depth], by decide⟩
theorem sh_bool {b : Bool} : Sh 1 5 (.bool b) := ⟨rfl, rfl, by simp [PyData.depth], by cases b <;> decide⟩
theorem sh_all : ∀ {xs : List PyData}, (∀ x ∈ xs, Sh n m x) → PyData.showableAll xs = true ∧ PyData.hasDictAll xs = false ∧ PyData.depthAll xs ≤ n ∧ ((PyData.shownAll xs).map (·.length)).sum ≤ xs.length * m ∧ (PyData.shownAll xs).length = xs.length
  | [], _ => ⟨rfl, rfl, by simp [PyData.depthAll], Nat.zero_le _, rfl⟩
  | x :: r, h => by
    have h1 := h x List.mem_cons_self
    obtain ⟨g1, g2, g3, g4, g5⟩ := sh_all fun y hy => h y (List.mem_cons_of_mem x hy)
    refine ⟨?_, ?_, ?_, ?_, ?_⟩
    · simp only [PyData.showableAll, h1.sw, g1, Bool.and_self]
    · simp only [PyData.hasDictAll, h1.nd, g2, Bool.or_self]
    · have := h1.dp
      simp only [PyData.depthAll]
      omega
    · have := h1.ln
      simp only [PyData.shownAll, List.map_cons, List.sum_cons, List.length_cons, Nat.succ_mul]
      omega
    · simp only [PyData.shownAll, List.length_cons, g5]
theorem sh_list (h : ∀ x ∈ xs, Sh n m x) (hl : xs.length ≤ l) : Sh (n + 1) (l * (m + 2) + 3) (.list xs) := by
  obtain ⟨g1, g2, g3, g4, g5⟩ := sh_all h
  refine ⟨by simp only [PyData.showable, g1], by simp only [PyData.hasDict, g2], by simp only [PyData.depth]; omega, ?_⟩
  have e := listText_len_le (PyData.shownAll xs)
  have e2 : xs.length * m ≤ l * m := Nat.mul_le_mul_right m hl
  have e3 : l * (m + 2) = l * m + l * 2 := Nat.mul_add ..
  simp only [PyData.shown]
  omega
theorem sh_tup (h : ∀ x ∈ xs, Sh n m x) (hl : xs.length ≤ l) : Sh (n + 1) (l * (m + 2) + 3) (.tuple xs) := by
  obtain ⟨g1, g2, g3, g4, g5⟩ := sh_all h
  refine ⟨by simp only [PyData.showable, g1], by simp only [PyData.hasDict, g2], by simp only [PyData.depth]; omega, ?_⟩
  have e := tupleText_len_le (PyData.shownAll xs)
  have e2 : xs.length * m ≤ l * m := Nat.mul_le_mul_right m hl
  have e3 : l * (m + 2) = l * m + l * 2 := Nat.mul_add ..
  simp only [PyData.shown]
  omega
theorem sh_seq {t : Bool} (h : ∀ x ∈ xs, Sh n m x) (hl : xs.length ≤ l) : Sh (n + 1) (l * (m + 2) + 3) (seqD t xs) := by
  cases t with
  | true => exact sh_tup h hl
  | false => exact sh_list h hl
theorem sh_pair {k : Int × Int} (h1 : k.1.natAbs < 10 ^ 40) (h2 : k.2.natAbs < 10 ^ 40) : Sh 2 89 (pairD k) := (sh_tup (l := 2) (fun x hx => by
  simp only [List.mem_cons, List.not_mem_nil, or_false] at hx
  rcases hx with rfl | rfl
  · exact sh_int h1
  · exact sh_int h2) (by exact Nat.le_refl 2)).more (by decide) (by decide)
end
section
variable {K : PySem.W.Frag} {σ : L2.St} {B : Hp} {te ta tb : TE} {d : PyData} {n m : Nat} {x y : Str}
/-- a list or a tuple, one or the other -/
def IsSeq (d : PyData) : Prop := ∃ xs, d = .list xs ∨ d = .tuple xs
theorem ev_strD (h : EvD K te σ B d) (hs : IsSeq d) (sh : Sh 50 16000000 d) : EvD K (tCB (rStrD K) (tCons te tNil)) σ B (.str d.shown) := evR_of (fun S H w Q q => h.bind w fun v B1 H1 e1 eB1 w1 r => by
  obtain ⟨a, rfl⟩ : ∃ a, v = V.ref a := by
    obtain ⟨xs, rfl | rfl⟩ := hs
    · cases r; exact ⟨_, rfl⟩
    · cases r; exact ⟨_, rfl⟩
  exact ⟨a, d, rfl, Dq.dp (Dq.mono w1.ex r), sh.sw, sh.nd, sh.dp, Nat.le_trans sh.ln (by decide), q _ B1 H1 e1 eB1 w1 (.str _)⟩) stays_dp
theorem dec_str {x y : Str} : decide (V.str x = V.str y) = decide (x = y) := by simp
theorem ev_eqS (ha : EvD K ta σ B (.str x)) (hb : EvD K tb σ B (.str y)) : EvD K (tOp rEq ta tb) σ B (.bool (decide (x = y))) :=
  ev_op ha hb (fun u v B' H' Q hx hy _ q => by
    cases hx; cases hy
    refine ⟨rfl, ?_⟩
    rw [dec_str]
    exact q _ (.bl _)) stays_dp
theorem ev_neS (ha : EvD K ta σ B (.str x)) (hb : EvD K tb σ B (.str y)) : EvD K (tOp rNe ta tb) σ B (.bool (!decide (x = y))) :=
  ev_op ha hb (fun u v B' H' Q hx hy _ q => by
    cases hx; cases hy
    refine ⟨rfl, ?_⟩
    rw [dec_str]
    exact q _ (.bl _)) stays_dp
end
end Pw

/-! ## PwN3 -/
namespace Pw
open PySem L2 Evl
section
variable {K : PySem.W.Frag} {Γ : En0} {te ta tb : TE}
theorem n_eqS {x y : Str} (ha : EE K ta Γ (.str x)) (hb : EE K tb Γ (.str y)) : EE K (tOp rEq ta tb) Γ (.bool (decide (x = y))) := fun σ B e => ev_eqS (ha σ B e) (hb σ B e)
theorem n_neS {x y : Str} (ha : EE K ta Γ (.str x)) (hb : EE K tb Γ (.str y)) : EE K (tOp rNe ta tb) Γ (.bool (!decide (x = y))) := fun σ B e => ev_neS (ha σ B e) (hb σ B e)
theorem n_sortSet {w : World} {ns ds : List Int} (h : EE K te Γ (.list (ns.map .int))) (hl : ns.length < 64) (hd : ds.Pairwise (· < ·)) (hm : ∀ k, k ∈ ds ↔ k ∈ ns) : EE K (tCB (rSortedSet w) (tCons (tCB (rSetIL K w) (tCons te tNil)) tNil)) Γ (.list (ds.map .int)) := fun σ B e => ev_sortSet (h σ B e) hl hd hm
end
end Pw

/-! ## PwSingle -/
namespace Pw
open PySem L2 Evl
section
variable {K : PySem.W.Frag} {σ : L2.St} {B H H' : Hp} {S : List Addr} {te : TE} {wi : TI} {g : TG}
/-- [e for x in l], of which each makes some that stay one's own -/
theorem lc_gen {α : Type} (l : List α) (enc : α → PyData) (Ps : Nat → List V → List Addr → Hp → Hp → Prop) {vs : List Nat} (hk : WkD K wi σ B (l.map enc)) (hl : l.length ≤ 40000)
    (h0 : ∀ B1 H1, Ps 0 [] [] B1 H1) (hst : ∀ i acc ow B1 H1 B2 H2, Ps i acc ow B1 H1 → Ex B1 B2 → (∀ a ∈ ow, ∀ o, H1 a = some o → H2 a = some o) → Ps i acc ow B2 H2)
    (turn : ∀ i a acc ow, l[i]? = some a → ∀ x S' B' H1, Ex B B' → Wd S' B' H1 → Dq K B' x (enc a) → Ps i acc ow B' H1 → ∀ Qy : VK,
      (∀ y new B2 H2, Ex H1 H2 → Ex B' B2 → Wd (new ++ S') B2 H2 → new.Nodup → (∀ p ∈ new, H1 p = none) → Ps (i + 1) (acc ++ [y]) (new ++ ow) B2 H2 → Qy y H2) →
      g x (wipe σ vs) H1 fun σ2 H2 => wipe σ2 vs = wipe σ vs ∧ te σ2 H2 Qy)
    (w : Wd S B H) {Q : VK} (q : ∀ a acc ow B' H', H a = none → (∀ p ∈ ow, H p = none) → (a :: ow).Nodup → Ex H H' → Ex B B' → Wd (a :: (ow ++ S)) B' H' → H' a = some (.lst acc) → acc.length = l.length → Ps l.length acc ow B' H' → Q (.ref a) H') : tLc wi g tYes te vs σ H Q := by
  refine hk S H w _ fun J B1 H1 e1 eB1 w1 hgo hstop hyld Dl hD => ?_
  rw [List.length_map] at hgo hstop hyld
  refine ⟨fun i m H' => m = l.length - i ∧ i ≤ l.length ∧ Ex H1 H' ∧ ∃ B' acc ow, Ex B1 B' ∧ Wd (Dl :: (ow ++ S)) B' H' ∧ H' Dl = some (.lst acc) ∧ acc.length = i ∧ (Dl :: ow).Nodup ∧ (∀ p ∈ ow, H1 p = none) ∧ Ps i acc ow B' H', ⟨l.length, by omega, Nat.zero_le _, Ex.new hD, B1, [], [], Ex.refl _, w1.own hD, upd_same, rfl, by simp, (fun p hp => by cases hp), h0 _ _⟩, ?_⟩
  rintro i m H2 ⟨rfl, hi, eH, B2, acc, ow, eB2, w2, hA, hal, hnd, hno, hP⟩
  by_cases hlt : i < l.length
  · obtain ⟨a, ha⟩ : ∃ a, l[i]? = some a := ⟨l[i], List.getElem?_eq_getElem hlt⟩
    refine .inr ⟨hgo i H2 (eB2.trans w2.ex) hlt, fun H' => ∃ B' acc ow, Ex H1 H' ∧ Ex B1 B' ∧ Wd (Dl :: (ow ++ S)) B' H' ∧ H' Dl = some (.lst acc) ∧ acc.length = i + 1 ∧ (Dl :: ow).Nodup ∧ (∀ p ∈ ow, H1 p = none) ∧ Ps (i + 1) acc ow B' H', fun H' ⟨B', acc, ow, h1, h2, h3⟩ => ⟨l.length - (i + 1), by omega, rfl, by omega, h1, B', acc, ow, h2, h3⟩, fun x H3 hy => ?_⟩
    obtain ⟨B3, e3, eB3, w3, d, hd1, hd2⟩ := hyld i (Dl :: (ow ++ S)) B2 H2 x H3 eB2 w2 hlt hy
    have ed : enc a = d := by
      rw [List.getElem?_map, ha] at hd1
      exact Option.some.inj hd1
    subst ed
    have hA3 := e3 _ _ hA
    have hP3 := hst _ _ _ _ _ B3 H3 hP eB3 fun a _ o ho => e3 _ _ ho
    have key := turn i a acc ow ha x _ B3 H3 (eB1.trans (eB2.trans eB3)) w3 hd2 hP3
      (fun y H4 => ∃ Ys, H4 Dl = some (.lst Ys) ∧ Ys.length < sizeLine ∧ ∃ B' acc ow, Ex H1 (upd H4 Dl (.lst (Ys ++ [y]))) ∧ Ex B1 B' ∧ Wd (Dl :: (ow ++ S)) B' (upd H4 Dl (.lst (Ys ++ [y]))) ∧ upd H4 Dl (.lst (Ys ++ [y])) Dl = some (.lst acc) ∧ acc.length = i + 1 ∧ (Dl :: ow).Nodup ∧ (∀ p ∈ ow, H1 p = none) ∧ Ps (i + 1) acc ow B' (upd H4 Dl (.lst (Ys ++ [y]))))
      fun y new B4 H4 e4 eB4 w4 n1 n2 hP4 => by
        have hA4 := e4 _ _ hA3
        have hnin : ∀ p ∈ new, p ∉ Dl :: (ow ++ S) := fun p hp => w3.nin (n2 p hp)
        refine ⟨acc, hA4, sz_lt (by omega), B4, acc ++ [y], new ++ ow, (eH.trans (e3.trans e4)).mut hD, eB2.trans (eB3.trans eB4), ?_, upd_same, by rw [List.length_append, hal]; rfl, ?_, fun p hp => ?_, ?_⟩
        · refine (w4.weak fun a m => ?_).put List.mem_cons_self
          simp only [List.mem_cons, List.mem_append] at m ⊢
          rcases m with m | (m | m) | m
          · exact .inr (.inl m)
          · exact .inl m
          · exact .inr (.inr (.inl m))
          · exact .inr (.inr (.inr m))
        · rw [List.nodup_cons] at hnd ⊢
          refine ⟨fun z => ?_, List.nodup_append.mpr ⟨n1, hnd.2, fun a ha b hb z => hnin a ha (by rw [z]; exact List.mem_cons_of_mem _ (List.mem_append_left _ hb))⟩⟩
          rcases List.mem_append.mp z with z | z
          · exact hnin Dl z List.mem_cons_self
          · exact hnd.1 z
        · rcases List.mem_append.mp hp with hp | hp
          · exact fresh_back (eH.trans e3) (n2 p hp)
          · exact hno p hp
        · refine hst _ _ _ _ _ _ _ hP4 (Ex.refl _) fun a ha o ho => ?_
          have : a ≠ Dl := fun z => by
            subst z
            rcases List.mem_append.mp ha with z | z
            · exact hnin a z List.mem_cons_self
            · exact (List.nodup_cons.mp hnd).1 z
          rw [upd_ne this]
          exact ho
    exact key
  · have ei : i = l.length := by omega
    subst ei
    exact .inl ⟨hstop _ H2 (eB2.trans w2.ex) rfl, q Dl acc ow B2 H2 (fresh_back e1 hD) (fun p hp => fresh_back e1 (hno p hp)) hnd (e1.trans eH) (eB1.trans eB2) w2 hA hal hP⟩
end
/-- all of some own ones given away -/
theorem give_all {K : PySem.W.Frag} {S : List Addr} {H : Hp} : ∀ (ow : List Addr) (B : Hp), Wd (ow ++ S) B H → ow.Nodup → (∀ a ∈ ow, a ∉ S) → ∃ B', Wd S B' H ∧ Ex B B' ∧ ∀ a ∈ ow, ∀ o, H a = some o → B' a = some o
  | [], B, w, _, _ => ⟨B, w, Ex.refl _, fun a h => by cases h⟩
  | a :: ow, B, w, hn, hS => by
    rw [List.nodup_cons] at hn
    obtain ⟨o, ho⟩ := w.at_ a List.mem_cons_self
    have w1 : Wd (ow ++ S) (upd B a o) H := w.give ho fun m => (List.mem_append.mp m).elim hn.1 (hS a List.mem_cons_self)
    obtain ⟨B', g1, g2, g3⟩ := give_all (K := K) ow (upd B a o) w1 hn.2 fun x hx => hS x (List.mem_cons_of_mem _ hx)
    refine ⟨B', g1, w.giveE.trans g2, fun x hx o' ho' => ?_⟩
    rcases List.mem_cons.mp hx with rfl | hx
    · rw [ho] at ho'
      cases ho'
      exact g2 _ _ upd_same
    · exact g3 x hx o' ho'

/-! ### single cuts -/
def othL (ps : List Int) (p : Int) : List Int := ps.filter fun x => !decide (x = p)
theorem oth_mem {ps : List Int} {p x : Int} : x ∈ othL ps p ↔ x ∈ ps ∧ x ≠ p := by
  unfold othL
  rw [List.mem_filter]
  by_cases h : x = p <;> simp [h]
structure PostsN (n : Int) (ps : List Int) : Prop where
  nd : ps.Nodup
  rng : ∀ p ∈ ps, 0 ≤ p ∧ p < n
theorem PostsN.ends {n : Int} {ps : List Int} (h : PostsN n ps) {p : Int} (hp : p ∈ ps) : Ends2 n [p] (othL ps p) :=
  ⟨by simp, h.nd.filter _, fun s hs => by rw [List.mem_singleton.mp hs]; exact h.rng p hp, fun s hs => h.rng s (oth_mem.mp hs).1, fun s hs hm => (oth_mem.mp hm).2 (List.mem_singleton.mp hs)⟩
noncomputable def amOf (n : Int) (ts : List Tie) (src snk : List Int) : List Int := @dite _ (∃ am, Flowed n ts src snk am) (Classical.propDecidable _) (fun h => Classical.choose h) (fun _ => [])
theorem amOf_ok {n : Int} {ts : List Tie} {src snk : List Int} (h : ∃ am, Flowed n ts src snk am) : Flowed n ts src snk (amOf n ts src snk) := by
  unfold amOf
  rw [dif_pos h]
  exact Classical.choose_spec h
noncomputable def amP (n : Int) (ts : List Tie) (ps : List Int) (p : Int) : List Int := amOf n ts [p] (othL ps p)
noncomputable def sideP (n : Int) (ts : List Tie) (ps : List Int) (p : Int) : List Int := srt (keysC (bfs0 n ts [p] (amP n ts ps p)))
noncomputable def valP (n : Int) (ts : List Tie) (ps : List Int) (p : Int) : Int := cutW ts (sideP n ts ps p)
noncomputable abbrev paperD (n : Int) (ts : List Tie) (ps : List Int) (p : Int) : PyData := .tuple [.int (valP n ts ps p), .list ((amP n ts ps p).map .int), .list ((sideP n ts ps p).map .int)]
theorem amP_ok {n : Int} {ts : List Tie} {ps : List Int} (hW : WebOk n ts) (h : PostsN n ps) {p : Int} (hp : p ∈ ps) : Flowed n ts [p] (othL ps p) (amP n ts ps p) :=
  amOf_ok (flowed_ex hW.ins (fun t ht => by have := hW.tie t ht; omega) (h.ends hp))
/-- papers, each of its own lists -/
structure PaperAt (n : Int) (ts : List Tie) (ps : List Int) (B H : Hp) (p : Int) (x : Addr × Addr × Addr) : Prop where
  t : B x.1 = some (.tup [.int (valP n ts ps p), .ref x.2.1, .ref x.2.2])
  a : H x.2.1 = some (.lst ((amP n ts ps p).map V.int))
  s : H x.2.2 = some (.lst ((sideP n ts ps p).map V.int))
def ownP (xs : List (Addr × Addr × Addr)) : List Addr := xs.reverse.flatMap fun x => [x.2.1, x.2.2]
theorem ownP_snoc (xs : List (Addr × Addr × Addr)) (x : Addr × Addr × Addr) : ownP (xs ++ [x]) = [x.2.1, x.2.2] ++ ownP xs := by
  unfold ownP
  rw [List.reverse_append]
  rfl
theorem ownP_mem {xs : List (Addr × Addr × Addr)} {x : Addr × Addr × Addr} (h : x ∈ xs) : x.2.1 ∈ ownP xs ∧ x.2.2 ∈ ownP xs := by
  unfold ownP
  exact ⟨List.mem_flatMap.mpr ⟨x, List.mem_reverse.mpr h, List.mem_cons_self⟩, List.mem_flatMap.mpr ⟨x, List.mem_reverse.mpr h, List.mem_cons_of_mem _ List.mem_cons_self⟩⟩
def PapersAt (n : Int) (ts : List Tie) (ps : List Int) (B H : Hp) (i : Nat) (xs : List (Addr × Addr × Addr)) : Prop := xs.length = i ∧ ∀ (j : Nat) x p, xs[j]? = some x → ps[j]? = some p → PaperAt n ts ps B H p x
def PsS (n : Int) (ts : List Tie) (ps : List Int) : Nat → List V → List Addr → Hp → Hp → Prop := fun i acc ow B H => ∃ xs : List (Addr × Addr × Addr), acc = xs.map (fun x => .ref x.1) ∧ ow = ownP xs ∧ PapersAt n ts ps B H i xs
def spSingles (K : PySem.W.Frag) : Sp := fun vs H Q _ => ∃ (S : List Addr) (B : Hp) (n : Int) (ts : List Tie) (t : Bool) (ps : List Int), Wd S B H ∧ DqAll K B vs [webD n ts, seqD t (ps.map .int)] ∧ WebOk n ts ∧ n ≤ 60 ∧ PostsN n ps ∧
  ∀ R xs B' H', H R = none → (∀ p ∈ ownP xs, H p = none) → (R :: ownP xs).Nodup → Ex H H' → Ex B B' → Wd (R :: (ownP xs ++ S)) B' H' → H' R = some (.lst (xs.map fun x => .ref x.1)) → PapersAt n ts ps B' H' ps.length xs → Q (.ref R) H'
section
variable {K : PySem.W.Frag} {n : Int} {ts : List Tie} {ps : List Int} {B H : Hp} {S : List Addr}
theorem papers_dq {i : Nat} {xs : List (Addr × Addr × Addr)} (h : PapersAt n ts ps B B i xs) (hi : i = ps.length) : DqAll K B (xs.map fun x => .ref x.1) (ps.map (paperD n ts ps)) := by
  obtain ⟨hl, hat⟩ := h
  rw [hi] at hl
  have : ∀ (qs : List Int) (ys : List (Addr × Addr × Addr)), ys.length = qs.length → (∀ (j : Nat) x p, ys[j]? = some x → qs[j]? = some p → PaperAt n ts ps B B p x) → DqAll K B (ys.map fun x => .ref x.1) (qs.map (paperD n ts ps)) := by
    intro qs
    induction qs with
    | nil =>
      intro ys h1 _
      have : ys = [] := List.eq_nil_of_length_eq_zero h1
      subst this
      exact .nil
    | cons q qs ih =>
      intro ys h1 h2
      match ys, h1 with
      | y :: ys, h1 =>
        have g := h2 0 y q rfl rfl
        exact .cons (.tup g.t (.cons (.int _) (.cons (.lst (sq_of g.a) DqAll.ints) (.cons (.lst (sq_of g.s) DqAll.ints) .nil)))) (ih ys (Nat.succ.inj h1) fun j x p e1 e2 => h2 (j + 1) x p e1 e2)
  exact this ps xs hl hat
/-- the papers as data -/
theorem papers_data {R : Addr} {xs : List (Addr × Addr × Addr)} {B' H' : Hp} (w : Wd (R :: (ownP xs ++ S)) B' H') (hn : (R :: ownP xs).Nodup) (hS : ∀ a ∈ R :: ownP xs, a ∉ S) (hR : H' R = some (.lst (xs.map fun x => .ref x.1))) (hP : PapersAt n ts ps B' H' ps.length xs) :
    ∃ B'', Wd S B'' H' ∧ Ex B' B'' ∧ Dq K B'' (.ref R) (.list (ps.map (paperD n ts ps))) := by
  obtain ⟨B2, g1, g2, g3⟩ := give_all (K := K) (R :: ownP xs) B' w hn hS
  refine ⟨B2, g1, g2, .lst (sq_of (g3 R List.mem_cons_self _ hR)) (papers_dq (i := ps.length) ⟨hP.1, fun j x p e1 e2 => ?_⟩ rfl)⟩
  have g := hP.2 j x p e1 e2
  have m := ownP_mem (List.mem_of_getElem? e1)
  exact ⟨g2 _ _ g.t, g3 _ (List.mem_cons_of_mem _ m.1) _ g.a, g3 _ (List.mem_cons_of_mem _ m.2) _ g.s⟩
end
end Pw

/-! ## PwExt -/
namespace Pw
open PySem PySem.Spec PyProof.Rows L2 Evl
/-- xs.extend(ys), ys any plain list -/
theorem ext_any (l : Addr) (us : Array Value) (m : Nat) (b : Addr) (ws : Array Value) (k : Nat) (dd : Option Addr) (sl : Array (Option Value)) (g0 : ¬(!us.isEmpty && Builtin.List.listTooLong (us.size + ws.size)) = true) (g1 : us.size ≤ sizeLine) (g2 : us.size + ws.size ≤ sizeLine + 1) :
    Meets (Builtin.«list.extend» ⟨[.ref l, .ref b], []⟩) (fun _ R s => s.heap.get? l = some { cls := .type "list", dict := none, data := .seq us m, slots := #[] } ∧ s.heap.get? b = some { cls := .type "list", dict := dd, data := .seq ws k, slots := sl } ∧ R (.ok (.ret Value.none)) { s with heap := s.heap.update l (Obj.mapSeq fun x => x ++ ws), toks := s.toks }) :=
  .of_wp fun prog w A R s h => by
    obtain ⟨hp, g, d, tk, os⟩ := s
    obtain ⟨hl, hb, h⟩ := h
    have f1 := AutoSeq1.idx_int
    have f2 := AutoSeq1.sub_tuple_tuple
    have f3 := AutoSeq1.sub_list_list
    have f4 := AutoSeq1.sub_tuple_list
    have f5 := AutoSeq1.sub_list_tuple
    have gz : (us ++ ws).size ≤ sizeLine + 1 := by rw [Array.size_append]; exact g2
    wp_walk using (wpAny_updateSeq hl rfl (hz := g1) (_hz' := gz)), wpAny_loadPart' hl, wpAny_loadPart' hb
    exact ⟨_, rfl, h⟩
def rExtQ (K : PySem.W.Frag) : V → List V → Hp → VK → Prop := fun x vs H Q => ∃ l b xs zs, x = .ref l ∧ vs = [.ref b] ∧ H l = some (.lst xs) ∧ SqL K H b zs ∧ xs.length + zs.length ≤ sizeLine ∧ Q .non (upd H l (.lst (xs ++ zs)))
theorem mt_extQ {X : Cx} : MtM X "list.extend" (rExtQ X.K) := by
  intro pins s σ H x vs v us Q I rx rv h
  obtain ⟨l, b, xs, zs, rfl, rfl, hH, hB, hz, q⟩ := h
  cases rx
  obtain ⟨u, rfl, ru⟩ := rv.one
  cases ru
  obtain ⟨z, its, n, r, hl, e⟩ := I.lstM hH
  obtain ⟨its2, r2, pl2, hl2⟩ := I.list hB
  obtain ⟨⟨c2, d2, t2, l2⟩, o2, e2, n2, f2⟩ := pl2.isList
  simp only at e2 f2
  subst e2 f2
  have hlr := r.length
  have hlr2 := r2.length
  have hsz : its.toArray.size + its2.toArray.size ≤ sizeLine := by rw [List.size_toArray, List.size_toArray]; omega
  have hlong : ¬ (!its.toArray.isEmpty && Builtin.List.listTooLong (its.toArray.size + its2.toArray.size)) = true := by
    rw [notLongL hsz, Bool.and_false]
    exact Bool.false_ne_true
  refine call_meets F.slot_list_extend ⟨_, e, rfl⟩ F.entry_list_extend (F.args_list_extend_2 _ _)
    (ext_any l its.toArray n b its2.toArray n2 d2 l2 hlong (by rw [List.size_toArray]; omega) (by omega)) ⟨e, o2, ?_⟩
  refine ⟨.non, _, I.lset (its' := its ++ its2) hH e (by simp) (r.append r2) ?_, rfl, q⟩
  rw [List.length_append]
  omega
section
variable {F : Fr} {K : PySem.W.Frag} {S S' : List Addr} {B B' H H' : Hp} {σ : L2.St} {Γ : En0} {i j k m : Nat} {v : V} {d d' : PyData} {ds es : List PyData} {te : TE} {tA : TA} {P : Po} {D : Ends}
/-- x.extend(e) -/
theorem s_ext (hi : Γ[i]? = some (some (.o .lst ds))) (hl : ds.length + es.length ≤ 40000) (h : EE F.K te (hide Γ) (.list es)) (kk : P.nx (Γ.set i (some (.o .lst (ds ++ es))))) : SX F (tDrop (tBM F.K "list" (rExtQ F.K) (tVar i) (tCons te tNil))) Γ P := fun S B H σ D e p => by
  obtain ⟨v, h1, ⟨a, xs, rfl, h3, h4, h5, h6⟩⟩ := e.ok i _ hi
  have h5 : H a = some (.lst xs) := h5
  refine ⟨_, h1, .inl ⟨rfl, _, sq_of h5⟩, e.ev h fun v B' H' eB e' hv => ?_⟩
  obtain ⟨v', g1, ⟨a', xs', g2, g3, g4, g5, g6⟩⟩ := e'.ok i _ hi
  rw [h1] at g1
  cases g1
  cases g2
  have g5 : H' a = some (.lst xs') := g5
  cases hv with
  | @lst b zs _ hs hd =>
  have l1 := DqAll.length g6
  have l2 := DqAll.length hd
  refine ⟨a, b, xs', zs, rfl, rfl, g5, ex_l e'.w.ex hs, ?_, ?_⟩
  · have : sizeLine = 100000 ∨ 40000 ≤ sizeLine := .inr (by decide)
    omega
  · exact p.nx _ _ _ _ _ kk (e'.chg (s' := .lst) (xs' := xs' ++ zs) hi h1 (DqAll.app g6 hd)) eB
/-- what singles tells, as data -/
theorem n_singles {E : XK} {n : Int} {ts : List Tie} {t : Bool} {ps : List Int} (h : EA K tA Γ [webD n ts, seqD t (ps.map .int)]) (hW : WebOk n ts) (hn : n ≤ 60) (hP : PostsN n ps) : EE K (tCall (spSingles K) [] E tA) Γ (.list (ps.map (paperD n ts ps))) := fun σ B e =>
  evR_of (fun S H w Q q => (h σ B e).bind w fun vs B1 H1 e1 eB1 w1 rs => ⟨S, B1, n, ts, t, ps, w1, by rw [List.append_nil]; exact rs, hW, hn, hP, fun R xs B2 H2 hR hx hnd eH eB w2 hR2 hPs => by
    obtain ⟨B3, g1, g2, g3⟩ := papers_data (K := K) w2 hnd (fun a m => (by
      rcases List.mem_cons.mp m with rfl | m
      · exact w1.nin hR
      · exact w1.nin (hx a m))) hR2 hPs
    exact q (.ref R) B3 H2 (e1.trans eH) (eB1.trans (eB.trans g2)) g1 g3⟩) stays_dp
end
end Pw

/-! ## PwOV -/
namespace Pw
open PySem L2 Evl
section
variable {F : Fr} {S : List Addr} {B H : Hp} {σ : L2.St} {Γ : En0} {i j k : Nat} {a b : Addr} {c : Nat} {te : TE} {tt : TT} {wi : TI} {g : TG} {P : Po} {D : Ends}
/-- [e for x in l if t], a part drawing: an own list -/
theorem s_lcV {α : Type} (l : List α) (enc : α → PyData) (Pr : Nat → List PyData → Prop) {vs : List Nat} {k1 k2 : Nat} {Γ2 : α → En0} {Rb : α → Bool → Prop} {Re : α → PyData → Prop} (hb : Γ[i]? = some (some (.b b c))) (hij : i ≠ j) (hk : EW F.K wi (hide Γ) (l.map enc)) (hl : l.length ≤ 40000) (h0 : Pr 0 []) (hlen : ∀ j ys, Pr j ys → ys.length ≤ j) (hi : i ∉ vs)
    (hg : ∀ a ∈ l, GN F.K g vs (wipeE (hide Γ) vs) (enc a) (Γ2 a)) (hG : ∀ a ∈ l, hide (Γ2 a) = Γ2 a) (ht : ∀ a ∈ l, EVB F.K i k1 tt (Γ2 a) (Rb a)) (he : ∀ a ∈ l, Rb a true → EV F.K i k2 te (Γ2 a) (Re a))
    (hy : ∀ j a ys, l[j]? = some a → Pr j ys → (∀ d, Rb a true → Re a d → Pr (j + 1) (ys ++ [d])) ∧ (Rb a false → Pr (j + 1) ys)) (hc : c + l.length * (k1 + k2) ≤ lid)
    (kk : ∀ ys, Pr l.length ys → P.nx ((Γ.set i (some (.b b (c + l.length * (k1 + k2))))).set j (some (.o .lst ys)))) : SX F (tAsg (tLc wi g tt te vs) (gName j)) Γ P := fun S B H σ D e p => by
  obtain ⟨v, g1, ⟨rfl, g3, g4, g5⟩⟩ := e.ok i _ hb
  refine lc_own (K := F.K) (k := k1 + k2) l enc id Pr (hk σ B e.hidden) hl h0 hlen (fun j a ys ha hP x S' B' H' c' eB w' hbS hB hlc hx Qy Qn q1 q2 => ?_) e.w g4 g5 hc fun A xs ys B' H' hA xH hB' eB w2 hA2 hP hd => ?_
  · have ha' := List.mem_of_getElem? ha
    refine hg a ha' S' B' H' _ x w' ((e.hidden.mono eB).wiped vs) hx _ fun σ' e' kk ll => ⟨wipe_back (ll.trans (wipe_length ..)) fun i m => by rw [kk i m, wipeS_get, if_neg m], ?_⟩
    have hb' : σ'[i]? = some (some (.ref b)) := by rw [kk i hi, wipeS_get, if_neg hi]; exact g1
    refine ht a ha' S' b B' σ' (by rw [hG a ha']; exact e') hb' H' c' w' hbS hB (by omega) _ fun y H2 x2 hB2 r2 => ?_
    have w2 := w'.xs hbS hB x2 hB2
    have e2 := w'.xsE hbS x2
    cases y with
    | true =>
      exact (he a ha' r2 S' b (mi H2 S') σ' (by rw [hG a ha']; exact e'.mono e2) hb').bind w2 hbS hB2 (by omega) fun v B3 H3 x3 eB3 w3 hB3 ⟨d, hd, hv⟩ => q1 d v B3 H3 (x2.trans x3) (hB3.mono (by omega)) w3 (e2.trans eB3) hv ((hy j a ys ha hP).1 d r2 hd)
    | false => exact q2 ((hy j a ys ha hP).2 r2) (mi H2 S') H2 x2 (hB2.mono (by omega)) w2 e2
  · rw [List.map_id] at hd
    have e1 := e.box hb xH hB' w2.tail eB
    have e2 : En F (A :: S) B' H' σ (Γ.set i (some (.b b (c + l.length * (k1 + k2))))) := ⟨w2, fun x m => List.mem_cons_of_mem _ (e1.sub x m), e1.eB, e1.xH, e1.fb, e1.hb0, e1.len, fun i s h => by
      obtain ⟨v, h1, h2⟩ := e1.ok i s h
      exact ⟨v, h1, h2.ext (Ex.refl _) (Ex.refl _) fun a m => List.mem_cons_of_mem _ m⟩, e1.ap⟩
    refine p.nx (A :: S) B' H' _ _ (kk ys hP) (e2.set (t := .o .lst ys) ⟨A, xs, rfl, List.mem_cons_self, e.freshH hA, hA2, hd⟩ fun _ j' a' hj ⟨u, hu, ou⟩ hv z => ?_) eB
    cases hv
    have key : ∃ s, Γ[j']? = some s ∧ isO s = true := by
      rcases get_set hu with ⟨rfl, _, _⟩ | ⟨_, hu⟩
      · exact ⟨_, hb, rfl⟩
      · exact ⟨u, hu, ou⟩
    obtain ⟨u', hu', ou'⟩ := key
    match u', ou', hu' with
    | some (.o s' ds'), _, hu' =>
      obtain ⟨v', h1, ⟨a', xs', h2, h3, h4, h5, h6⟩⟩ := e.ok j' _ hu'
      rw [h1] at z
      cases z
      cases h2
      rw [hA] at h5
      cases h5
    | some (.b a' c), _, hu' =>
      obtain ⟨v', h1, ⟨h2, h3, h4, h5⟩⟩ := e.ok j' _ hu'
      rw [h1] at z
      cases z
      cases h2
      obtain ⟨o, ho⟩ := h5.some
      rw [hA] at ho
      cases ho
end
end Pw

/-! ## PwFracS -/
namespace Pw
open PySem L2 Evl
/-! ### worlds with shares -/
structure ShW (n : Int) (ts : List Tie) (ps : List Int) (rows : List (List Rat)) : Prop where
  W : WebOk n ts
  hw : ∀ t ∈ ts, t.2.2 ≤ 1000000000
  n2 : 2 ≤ n
  n30 : n ≤ 30
  P : PostsOk n ps
  p2 : 2 ≤ ps.length
  p6 : ps.length ≤ 6
  S : SharesOk n ps rows
section
variable {n : Int} {ts : List Tie} {ps : List Int} {rows : List (List Rat)} {t : Bool} {r : Rat} {k : Nat} {row : List Rat}
theorem ShW.pre (h : ShW n ts ps rows) : ShPre n ts rows ps.length := h.S.pre h.W h.hw h.n30 h.p6
theorem ShW.p0 (h : ShW n ts ps rows) : 0 < ps.length := by have := h.p2; omega
theorem ShW.ne (h : ShW n ts ps rows) : ps ≠ [] := List.length_pos_iff.mp h.p0
theorem ShW.rl (h : ShW n ts ps rows) : rows.length ≤ 30 := by
  have h1 := h.S.len
  have h2 := h.n30
  omega
theorem ShW.tl (h : ShW n ts ps rows) : ts.length ≤ 100 := h.W.len
theorem sh_rat {s : Nat} (hs : 0 < s) (h6 : s ≤ 60000) (h : FB s 1 r) : Sh 2 89 (ratD r) := by
  have hd : r.den ≤ s := Nat.le_of_dvd hs h.d
  have hn := h.n
  have b : (10 : Nat) ^ 40 > 60000 := by decide
  refine (sh_tup (l := 2) (n := 1) (m := 41) (fun x hx => ?_) (by exact Nat.le_refl 2)).more (by decide) (by decide)
  simp only [List.mem_cons, List.not_mem_nil, or_false] at hx
  rcases hx with rfl | rfl
  · exact sh_int (by omega)
  · exact sh_int (by rw [Int.natAbs_natCast]; omega)
theorem sh_row2 (h : RowOk k row) (hk : k ≤ 6) : Sh 3 549 (rowD t row) := by
  obtain ⟨h1, h2, h3, s, hs, h6, hF⟩ := h
  refine (sh_seq (l := 6) (n := 2) (m := 89) (fun x hx => ?_) (by rw [List.length_map]; omega)).more (by decide) (by decide)
  obtain ⟨r, hr, rfl⟩ := List.mem_map.mp hx
  exact sh_rat hs h6 (hF r hr)
theorem ShW.sh (h : ShW n ts ps rows) : Sh 4 20000 (shD t rows) := by
  refine (sh_seq (l := 30) (n := 3) (m := 549) (fun x hx => ?_) (by rw [List.length_map]; exact h.rl)).more (by decide) (by decide)
  obtain ⟨row, hr, rfl⟩ := List.mem_map.mp hx
  exact sh_row2 (h.S.row row hr) h.p6
theorem isSeq_sh : IsSeq (shD t rows) := by
  cases t with
  | false => exact ⟨_, .inl rfl⟩
  | true => exact ⟨_, .inr rfl⟩
end
theorem DrawOk.imp {K : PySem.W.Frag} {sp : Sp} {k : Nat} {ds : List PyData} {R R' : PyData → Prop} (h : DrawOk K sp k ds R) (i : ∀ d, R d → R' d) : DrawOk K sp k ds R' := fun S B H b c us Q E w hb hB hc hd q => h S B H b c us Q E w hb hB hc hd fun v H' d hd' => q v H' d (i d hd')
section
variable {K : PySem.W.Frag} {Γ : En0} {te ta tb : TE} {d : PyData}
theorem n_strD (h : EE K te Γ d) (hs : IsSeq d) (sh : Sh 50 16000000 d) : EE K (tCB (rStrD K) (tCons te tNil)) Γ (.str d.shown) := fun σ B e => ev_strD (h σ B e) hs sh
theorem n_same {E : XK} (ha : EE K ta Γ d) (hb : EE K tb Γ d) (h : okD 4 d = true) : EE K (tCall (spD K (fSame 4)) [] E (tCons ta (tCons tb tNil))) Γ (.bool true) := n_call (na_cons ha (na_cons hb na_nil)) ⟨d, rfl, h, rfl⟩
theorem ok_rat {m : Nat} (r : Rat) : okD (m + 2) (ratD r) = true := rfl
end
end Pw

/-! ## PwRound -/
namespace Pw
/-! ### rows of shares at thresholds: the middle weight of two orders -/
def ownAt (x : Nat → Rat) (os : List Nat) (last : Nat) (ρ : Rat) : Nat := (os.find? fun i => !decide (x i < ρ)).getD last
def inI (x y : Nat → Rat) (i : Nat) (ρ : Rat) : Prop := (x i < ρ ∧ ρ ≤ y i) ∨ (y i < ρ ∧ ρ ≤ x i)
instance (x y : Nat → Rat) (i : Nat) (ρ : Rat) : Decidable (inI x y i ρ) := inferInstanceAs (Decidable (_ ∨ _))
def big (x y : Nat → Rat) (i : Nat) (ρ : Rat) : Prop := ρ ≤ x i ∨ ρ ≤ y i
/-- where two rows have unlike owners, the first post that has so much of one has so much of just one -/
theorem split_first {x y : Nat → Rat} {last : Nat} {ρ : Rat} : ∀ os : List Nat, ownAt x os last ρ ≠ ownAt y os last ρ → ∃ l i r, os = l ++ i :: r ∧ inI x y i ρ ∧ ∀ j ∈ l, ¬ big x y j ρ
  | [], h => absurd rfl h
  | i :: r, h => by
    by_cases a : x i < ρ <;> by_cases b : y i < ρ
    · have e1 : ownAt x (i :: r) last ρ = ownAt x r last ρ := by unfold ownAt; rw [List.find?_cons]; simp [a]
      have e2 : ownAt y (i :: r) last ρ = ownAt y r last ρ := by unfold ownAt; rw [List.find?_cons]; simp [b]
      rw [e1, e2] at h
      obtain ⟨l, k, s, rfl, h1, h2⟩ := split_first r h
      refine ⟨i :: l, k, s, rfl, h1, fun j hj => ?_⟩
      rcases List.mem_cons.mp hj with rfl | hj
      · rintro (z | z)
        · exact Rat.not_le.mpr a z
        · exact Rat.not_le.mpr b z
      · exact h2 j hj
    · exact ⟨[], i, r, rfl, .inl ⟨a, Rat.not_lt.mp b⟩, fun j hj => by cases hj⟩
    · exact ⟨[], i, r, rfl, .inr ⟨b, Rat.not_lt.mp a⟩, fun j hj => by cases hj⟩
    · have e1 : ownAt x (i :: r) last ρ = i := by unfold ownAt; rw [List.find?_cons]; simp [a]
      have e2 : ownAt y (i :: r) last ρ = i := by unfold ownAt; rw [List.find?_cons]; simp [b]
      rw [e1, e2] at h
      exact absurd rfl h
def b01r (p : Prop) [Decidable p] : Rat := if p then 1 else 0
theorem b01_nn (p : Prop) [Decidable p] : 0 ≤ b01r p := by unfold b01r; split <;> decide
theorem b01_le (p : Prop) [Decidable p] : b01r p ≤ 1 := by unfold b01r; split <;> decide
theorem b01_of {p : Prop} [Decidable p] (h : p) : b01r p = 1 := if_pos h
theorem cnt_nn (x y : Nat → Rat) (ρ : Rat) : ∀ l : List Nat, 0 ≤ sumR (l.map fun i => b01r (inI x y i ρ))
  | [] => Rat.le_refl
  | i :: l => by
    have := b01_nn (inI x y i ρ)
    have := cnt_nn x y ρ l
    show 0 ≤ b01r (inI x y i ρ) + sumR (l.map fun i => b01r (inI x y i ρ))
    grind
theorem cnt_app (x y : Nat → Rat) (ρ : Rat) (l r : List Nat) : sumR ((l ++ r).map fun i => b01r (inI x y i ρ)) = sumR (l.map fun i => b01r (inI x y i ρ)) + sumR (r.map fun i => b01r (inI x y i ρ)) := by
  rw [List.map_append, sumR_app]
theorem cnt_one {x y : Nat → Rat} {ρ : Rat} {i : Nat} {l : List Nat} (h : i ∈ l) (hi : inI x y i ρ) : 1 ≤ sumR (l.map fun i => b01r (inI x y i ρ)) := by
  obtain ⟨a, b, rfl⟩ := List.append_of_mem h
  rw [cnt_app]
  have h1 := cnt_nn x y ρ a
  have h2 := cnt_nn x y ρ b
  have h3 := b01_of hi
  show 1 ≤ _ + (b01r (inI x y i ρ) + sumR (b.map fun i => b01r (inI x y i ρ)))
  grind
theorem cnt_two {x y : Nat → Rat} {ρ : Rat} {i j : Nat} {l : List Nat} (h : i ∈ l) (hj : j ∈ l) (hne : i ≠ j) (h1 : inI x y i ρ) (h2 : inI x y j ρ) : 2 ≤ sumR (l.map fun i => b01r (inI x y i ρ)) := by
  obtain ⟨a, b, rfl⟩ := List.append_of_mem h
  rw [cnt_app]
  have k1 := cnt_nn x y ρ a
  have k2 := cnt_nn x y ρ b
  have k3 := b01_of h1
  show 2 ≤ _ + (b01r (inI x y i ρ) + sumR (b.map fun i => b01r (inI x y i ρ)))
  rcases List.mem_append.mp hj with m | m
  · have := cnt_one m h2
    grind
  · rcases List.mem_cons.mp m with rfl | m
    · exact absurd rfl hne
    · have := cnt_one m h2
      grind
/-- at one threshold: both orders together -/
theorem split_two {x y : Nat → Rat} {last s : Nat} {ρ : Rat} {os : List Nat} (hn : os.Nodup) (hs : s ∈ os) (hmax : ∀ i ∈ os, big x y i ρ → big x y s ρ) :
    b01r (ownAt x os last ρ ≠ ownAt y os last ρ) + b01r (ownAt x os.reverse last ρ ≠ ownAt y os.reverse last ρ) ≤ sumR (os.map fun i => b01r (inI x y i ρ)) + b01r (inI x y s ρ) := by
  have h0 := cnt_nn x y ρ os
  have h1 := b01_nn (inI x y s ρ)
  have inb : ∀ {i}, inI x y i ρ → big x y i ρ := fun {i} h => h.elim (fun h => .inr h.2) fun h => .inl h.2
  by_cases a : ownAt x os last ρ ≠ ownAt y os last ρ
  · obtain ⟨l, i, r, e, hi, hl⟩ := split_first os a
    have hio : i ∈ os := by rw [e]; exact List.mem_append_right _ List.mem_cons_self
    have c1 := cnt_one hio hi
    by_cases b : ownAt x os.reverse last ρ ≠ ownAt y os.reverse last ρ
    · obtain ⟨l', j, r', e', hj, hl'⟩ := split_first os.reverse b
      have hjo : j ∈ os := List.mem_reverse.mp (by rw [e']; exact List.mem_append_right _ List.mem_cons_self)
      rw [b01_of a, b01_of b]
      by_cases hij : i = j
      · subst hij
        -- the only one that has so much
        have eo : os = r'.reverse ++ i :: l'.reverse := by
          have := congrArg List.reverse e'
          rw [List.reverse_reverse] at this
          rw [this]
          simp
        have hsi : s = i := by
          apply Classical.byContradiction
          intro hne
          have hb := hmax i hio (inb hi)
          have key : ∀ l r l2 r2 : List Nat, l ++ i :: r = l2 ++ i :: r2 → (l ++ i :: r).Nodup → ∀ z, z ∈ l ++ i :: r → z ≠ i → z ∈ l ∨ z ∈ r2 := by
            intro l
            induction l with
            | nil =>
              intro r l2 r2 h hnd z hz hzi
              cases l2 with
              | nil =>
                simp at h
                subst h
                exact .inr ((List.mem_cons.mp hz).resolve_left hzi)
              | cons w l2 =>
                simp only [List.nil_append, List.cons_append, List.cons.injEq] at h
                obtain ⟨rfl, h⟩ := h
                rw [List.nil_append, List.nodup_cons] at hnd
                exact absurd (by rw [h]; exact List.mem_append_right _ List.mem_cons_self) hnd.1
            | cons w l ih =>
              intro r l2 r2 h hnd z hz hzi
              cases l2 with
              | nil =>
                simp only [List.nil_append, List.cons_append, List.cons.injEq] at h
                obtain ⟨rfl, h⟩ := h
                rw [List.cons_append, List.nodup_cons] at hnd
                exact absurd (List.mem_append_right _ List.mem_cons_self) hnd.1
              | cons w2 l2 =>
                simp only [List.cons_append, List.cons.injEq] at h
                obtain ⟨rfl, h⟩ := h
                rcases List.mem_cons.mp hz with rfl | hz
                · exact .inl List.mem_cons_self
                · rw [List.cons_append, List.nodup_cons] at hnd
                  exact (ih r l2 r2 h hnd.2 z hz hzi).imp (List.mem_cons_of_mem _) id
          rcases key l r _ _ (e.symm.trans eo) (e ▸ hn) s (e ▸ hs) hne with m | m
          · exact hl s m hb
          · exact hl' s (List.mem_reverse.mp m) hb
        rw [hsi, b01_of hi]
        grind
      · have := cnt_two hio hjo hij hi hj
        grind
    · have : b01r (ownAt x os.reverse last ρ ≠ ownAt y os.reverse last ρ) = 0 := if_neg b
      rw [this, b01_of a]
      grind
  · have z : b01r (ownAt x os last ρ ≠ ownAt y os last ρ) = 0 := if_neg a
    rw [z]
    by_cases b : ownAt x os.reverse last ρ ≠ ownAt y os.reverse last ρ
    · obtain ⟨l', j, r', e', hj, hl'⟩ := split_first os.reverse b
      have hjo : j ∈ os := List.mem_reverse.mp (by rw [e']; exact List.mem_append_right _ List.mem_cons_self)
      have := cnt_one hjo hj
      rw [b01_of b]
      grind
    · have : b01r (ownAt x os.reverse last ρ ≠ ownAt y os.reverse last ρ) = 0 := if_neg b
      rw [this]
      grind
/-! ### over all thresholds, each as long as it is far from the one ahead -/
def meas (f : Rat → Rat) : Rat → List Rat → Rat
  | _, [] => 0
  | a, t :: ts => (t - a) * f t + meas f t ts
def Rising : Rat → List Rat → Prop
  | _, [] => True
  | a, t :: ts => a < t ∧ Rising t ts
theorem meas_add (f g : Rat → Rat) : ∀ (a : Rat) (ts : List Rat), meas (fun t => f t + g t) a ts = meas f a ts + meas g a ts
  | _, [] => by show (0 : Rat) = 0 + 0; rw [Rat.zero_add]
  | a, t :: ts => by
    show (t - a) * (f t + g t) + meas (fun t => f t + g t) t ts = ((t - a) * f t + meas f t ts) + ((t - a) * g t + meas g t ts)
    rw [meas_add f g t ts]
    grind
theorem meas_mul (c : Rat) (f : Rat → Rat) : ∀ (a : Rat) (ts : List Rat), meas (fun t => c * f t) a ts = c * meas f a ts
  | _, [] => by show (0 : Rat) = c * 0; rw [Rat.mul_zero]
  | a, t :: ts => by
    show (t - a) * (c * f t) + meas (fun t => c * f t) t ts = c * ((t - a) * f t + meas f t ts)
    rw [meas_mul c f t ts]
    grind
theorem meas_le {f g : Rat → Rat} : ∀ (a : Rat) (ts : List Rat), Rising a ts → (∀ t ∈ ts, f t ≤ g t) → meas f a ts ≤ meas g a ts
  | _, [], _, _ => Rat.le_refl
  | a, t :: ts, h, hf => by
    have h1 := meas_le t ts h.2 fun u hu => hf u (List.mem_cons_of_mem _ hu)
    have h2 : (t - a) * f t ≤ (t - a) * g t := Rat.mul_le_mul_of_nonneg_left (hf t List.mem_cons_self) (by have := h.1; grind)
    show (t - a) * f t + meas f t ts ≤ (t - a) * g t + meas g t ts
    grind
theorem meas_sum {α : Type} (f : α → Rat → Rat) (a : Rat) (ts : List Rat) : ∀ l : List α, meas (fun t => sumR (l.map fun i => f i t)) a ts = sumR (l.map fun i => meas (f i) a ts)
  | [] => by
    have : ∀ (a : Rat) (ts : List Rat), meas (fun _ => (0 : Rat)) a ts = 0 := fun a ts => by
      induction ts generalizing a with
      | nil => rfl
      | cons t ts ih =>
        show (t - a) * 0 + meas (fun _ => 0) t ts = 0
        rw [ih, Rat.mul_zero, Rat.zero_add]
    exact this a ts
  | i :: l => by
    have e : meas (fun t => f i t + sumR (l.map fun i => f i t)) a ts = meas (f i) a ts + meas (fun t => sumR (l.map fun i => f i t)) a ts := meas_add ..
    show meas (fun t => f i t + sumR (l.map fun i => f i t)) a ts = _
    rw [e, meas_sum f a ts l]
    rfl
/-- of all between two of them just how far they are apart -/
theorem meas_none {lo hi : Rat} : ∀ (a : Rat) (ts : List Rat), Rising a ts → hi ≤ a → meas (fun t => b01r (lo < t ∧ t ≤ hi)) a ts = 0
  | _, [], _, _ => rfl
  | a, t :: ts, h, hh => by
    have : ¬ (lo < t ∧ t ≤ hi) := fun z => by have := h.1; have := z.2; grind
    show (t - a) * b01r (lo < t ∧ t ≤ hi) + meas _ t ts = 0
    rw [meas_none t ts h.2 (by have := h.1; grind), b01r, if_neg this]
    grind
theorem meas_between {lo hi : Rat} : ∀ (a : Rat) (ts : List Rat), Rising a ts → a ≤ lo → lo ≤ hi → lo ∈ a :: ts → hi ∈ a :: ts → meas (fun t => b01r (lo < t ∧ t ≤ hi)) a ts = hi - lo
  | a, [], _, _, _, h1, h2 => by
    rw [List.mem_singleton.mp h1, List.mem_singleton.mp h2]
    show (0 : Rat) = _
    grind
  | a, t :: ts, h, ha, hle, h1, h2 => by
    show (t - a) * b01r (lo < t ∧ t ≤ hi) + meas _ t ts = hi - lo
    by_cases e : lo = a
    · subst e
      rcases List.mem_cons.mp h2 with rfl | h2
      · rw [meas_none t ts h.2 (by have := h.1; grind), b01r, if_neg (fun z => by have := h.1; have := z.2; grind)]
        grind
      · have hth : t ≤ hi := by
          have : ∀ (b : Rat) (us : List Rat), Rising b us → ∀ u ∈ us, b ≤ u := fun b us => by
            induction us generalizing b with
            | nil => intro _ u hu; cases hu
            | cons v us ih =>
              intro hr u hu
              have hv := hr.1
              rcases List.mem_cons.mp hu with rfl | hu
              · grind
              · have := ih v hr.2 u hu
                grind
          rcases List.mem_cons.mp h2 with rfl | h2
          · exact Rat.le_refl
          · exact this t ts h.2 hi h2
        have hc : ∀ (b : Rat) (us : List Rat), Rising b us → t ≤ b → meas (fun u => b01r (lo < u ∧ u ≤ hi)) b us = meas (fun u => b01r (t < u ∧ u ≤ hi)) b us := fun b us => by
          induction us generalizing b with
          | nil => intro _ _; rfl
          | cons v us ih =>
            intro hr hb
            have hv := hr.1
            have hl := h.1
            show (v - b) * b01r (lo < v ∧ v ≤ hi) + meas _ v us = (v - b) * b01r (t < v ∧ v ≤ hi) + meas _ v us
            rw [ih v hr.2 (by grind)]
            have : (lo < v ∧ v ≤ hi) ↔ (t < v ∧ v ≤ hi) := by
              constructor <;> intro z <;> refine ⟨?_, z.2⟩ <;> grind
            simp only [b01r, this]
        rw [hc t ts h.2 Rat.le_refl, meas_between t ts h.2 Rat.le_refl hth List.mem_cons_self h2, b01r, if_pos ⟨h.1, hth⟩]
        grind
    · have h1' : lo ∈ t :: ts := (List.mem_cons.mp h1).resolve_left e
      have hlt : t ≤ lo := by
        have : ∀ (b : Rat) (us : List Rat), Rising b us → ∀ u ∈ us, b ≤ u := fun b us => by
          induction us generalizing b with
          | nil => intro _ u hu; cases hu
          | cons v us ih =>
            intro hr u hu
            have hv := hr.1
            rcases List.mem_cons.mp hu with rfl | hu
            · grind
            · have := ih v hr.2 u hu
              grind
        rcases List.mem_cons.mp h1' with rfl | h3
        · exact Rat.le_refl
        · exact this t ts h.2 lo h3
      have h2' : hi ∈ t :: ts := (List.mem_cons.mp h2).resolve_left fun z => by have := h.1; grind
      rw [meas_between t ts h.2 hlt hle h1' h2', b01r, if_neg (fun z => by have := z.1; grind)]
      grind
end Pw

/-! ## PwRound2 -/
namespace Pw
def dist (x y : Nat → Rat) (i : Nat) : Rat := (x i - y i).abs
theorem dist_nn (x y : Nat → Rat) (i : Nat) : 0 ≤ dist x y i := by
  unfold dist Rat.abs
  split <;> grind
theorem dist_cases (x y : Nat → Rat) (i : Nat) : (y i ≤ x i ∧ dist x y i = x i - y i) ∨ (x i ≤ y i ∧ dist x y i = y i - x i) := by
  unfold dist Rat.abs
  split
  · exact .inl ⟨by grind, rfl⟩
  · exact .inr ⟨by grind, by grind⟩
theorem meas_congr {f g : Rat → Rat} : ∀ (a : Rat) (ts : List Rat), (∀ t, f t = g t) → meas f a ts = meas g a ts := fun a ts h => by
  rw [show f = g from funext h]
theorem meas_inI {x y : Nat → Rat} {i : Nat} {ts : List Rat} (h : Rising 0 ts) (hx : 0 ≤ x i) (hy : 0 ≤ y i) (h1 : x i ∈ 0 :: ts) (h2 : y i ∈ 0 :: ts) : meas (fun t => b01r (inI x y i t)) 0 ts = dist x y i := by
  rcases dist_cases x y i with ⟨hl, e⟩ | ⟨hl, e⟩
  · rw [e, ← meas_between 0 ts h hy hl h2 h1]
    refine meas_congr _ _ fun t => ?_
    have : inI x y i t ↔ (y i < t ∧ t ≤ x i) := ⟨fun z => z.elim (fun z => by have := z.1; have := z.2; exfalso; grind) id, .inr⟩
    simp only [b01r, this]
  · rw [e, ← meas_between 0 ts h hx hl h1 h2]
    refine meas_congr _ _ fun t => ?_
    have : inI x y i t ↔ (x i < t ∧ t ≤ y i) := ⟨fun z => z.elim id (fun z => by have := z.1; have := z.2; exfalso; grind), .inl⟩
    simp only [b01r, this]
def max1 (a b : Rat) : Rat := if a ≤ b then b else a
/-- one of those of which one of both rows has most -/
theorem most_ex (x y : Nat → Rat) : ∀ os : List Nat, os ≠ [] → ∃ s ∈ os, ∀ ρ, ∀ i ∈ os, big x y i ρ → big x y s ρ
  | [], h => absurd rfl h
  | [i], _ => ⟨i, List.mem_cons_self, fun ρ j hj => by rw [List.mem_singleton.mp hj]; exact id⟩
  | i :: j :: os, _ => by
    obtain ⟨s, hs, hm⟩ := most_ex x y (j :: os) (List.cons_ne_nil _ _)
    have tot : (∀ ρ, big x y i ρ → big x y s ρ) ∨ (∀ ρ, big x y s ρ → big x y i ρ) := by
      have : (max1 (x i) (y i) ≤ max1 (x s) (y s)) ∨ (max1 (x s) (y s) ≤ max1 (x i) (y i)) := Rat.le_total
      have key : ∀ k ρ, big x y k ρ ↔ ρ ≤ max1 (x k) (y k) := fun k ρ => by
        unfold big max1
        split <;> constructor <;> intro z <;> grind
      rcases this with h | h
      · exact .inl fun ρ z => (key s ρ).mpr (Rat.le_trans ((key i ρ).mp z) h)
      · exact .inr fun ρ z => (key i ρ).mpr (Rat.le_trans ((key s ρ).mp z) h)
    rcases tot with h | h
    · refine ⟨s, List.mem_cons_of_mem _ hs, fun ρ k hk z => ?_⟩
      rcases List.mem_cons.mp hk with rfl | hk
      · exact h ρ z
      · exact hm ρ k hk z
    · refine ⟨i, List.mem_cons_self, fun ρ k hk z => ?_⟩
      rcases List.mem_cons.mp hk with rfl | hk
      · exact z
      · exact h ρ (hm ρ k hk z)
theorem sum_dist (x y : Nat → Rat) : ∀ l : List Nat, sumR (l.map x) - sumR (l.map y) ≤ sumR (l.map (dist x y)) ∧ sumR (l.map y) - sumR (l.map x) ≤ sumR (l.map (dist x y))
  | [] => by constructor <;> (show (0 : Rat) - 0 ≤ 0; grind)
  | i :: l => by
    obtain ⟨h1, h2⟩ := sum_dist x y l
    have h3 := dist_cases x y i
    have h4 := dist_nn x y i
    show (x i + sumR (l.map x)) - (y i + sumR (l.map y)) ≤ dist x y i + sumR (l.map (dist x y)) ∧ (y i + sumR (l.map y)) - (x i + sumR (l.map x)) ≤ dist x y i + sumR (l.map (dist x y))
    rcases h3 with ⟨a, b⟩ | ⟨a, b⟩ <;> constructor <;> grind
/-- both orders' middle: what a tie costs one and a half times, less what it costs by the last -/
theorem tie_mid {x y : Nat → Rat} {os : List Nat} {last : Nat} {ts : List Rat} (hn : os.Nodup) (h0 : os ≠ []) (hx : ∀ i ∈ os, 0 ≤ x i) (hy : ∀ i ∈ os, 0 ≤ y i) (hs : sumR (os.map x) + x last = sumR (os.map y) + y last)
    (h : Rising 0 ts) (h1 : ∀ i ∈ os, x i ∈ 0 :: ts) (h2 : ∀ i ∈ os, y i ∈ 0 :: ts) :
    2 * (meas (fun t => b01r (ownAt x os last t ≠ ownAt y os last t)) 0 ts + meas (fun t => b01r (ownAt x os.reverse last t ≠ ownAt y os.reverse last t)) 0 ts) ≤ 3 * (sumR (os.map (dist x y)) + dist x y last) - 2 * dist x y last := by
  obtain ⟨s, hs1, hm⟩ := most_ex x y os h0
  have e1 := meas_le (f := fun t => b01r (ownAt x os last t ≠ ownAt y os last t) + b01r (ownAt x os.reverse last t ≠ ownAt y os.reverse last t)) (g := fun t => sumR (os.map fun i => b01r (inI x y i t)) + b01r (inI x y s t)) 0 ts h fun t _ => split_two hn hs1 fun i hi z => hm t i hi z
  rw [meas_add, meas_add, meas_sum] at e1
  have e2 : sumR (os.map fun i => meas (fun t => b01r (inI x y i t)) 0 ts) = sumR (os.map (dist x y)) := sumR_congr fun i hi => meas_inI h (hx i hi) (hy i hi) (h1 i hi) (h2 i hi)
  rw [e2, meas_inI h (hx s hs1) (hy s hs1) (h1 s hs1) (h2 s hs1)] at e1
  -- the greatest is at most half of all
  have e3 : 2 * dist x y s ≤ sumR (os.map (dist x y)) + dist x y last := by
    obtain ⟨a, b, rfl⟩ := List.append_of_mem hs1
    have k1 := sum_dist x y a
    have k2 := sum_dist x y b
    have k3 := dist_cases x y s
    have k4 := dist_cases x y last
    rw [List.map_append, List.map_append, sumR_app, sumR_app] at hs
    rw [List.map_append, sumR_app]
    have u1 : sumR ((s :: b).map x) = x s + sumR (b.map x) := rfl
    have u2 : sumR ((s :: b).map y) = y s + sumR (b.map y) := rfl
    have u3 : sumR ((s :: b).map (dist x y)) = dist x y s + sumR (b.map (dist x y)) := rfl
    rw [u1, u2] at hs
    rw [u3]
    rcases k3 with ⟨_, k3⟩ | ⟨_, k3⟩ <;> rcases k4 with ⟨k5, k4⟩ | ⟨k5, k4⟩ <;> grind
  have e4 := dist_nn x y last
  grind
end Pw

/-! ## PwRnd -/
namespace Pw
/-! ### fractions, each once, rising; owners by an order and a threshold -/
def insR (r : Rat) : List Rat → List Rat
  | [] => [r]
  | x :: xs => if x < r then x :: insR r xs else if x = r then x :: xs else r :: x :: xs
theorem mem_insR {r y : Rat} : ∀ {xs : List Rat}, y ∈ insR r xs ↔ y = r ∨ y ∈ xs
  | [] => by unfold insR; simp
  | x :: xs => by
    unfold insR
    split
    · rw [List.mem_cons, List.mem_cons, mem_insR]
      constructor
      · rintro (h | h | h)
        · exact .inr (.inl h)
        · exact .inl h
        · exact .inr (.inr h)
      · rintro (h | h | h)
        · exact .inr (.inl h)
        · exact .inl h
        · exact .inr (.inr h)
    · split
      · rename_i e
        subst e
        simp
      · simp
theorem insR_sorted {r : Rat} : ∀ {xs : List Rat}, xs.Pairwise (· < ·) → (insR r xs).Pairwise (· < ·)
  | [], _ => by unfold insR; simp
  | x :: xs, h => by
    obtain ⟨h1, h2⟩ := List.pairwise_cons.mp h
    unfold insR
    split
    · rename_i hl
      refine List.pairwise_cons.mpr ⟨fun y hy => ?_, insR_sorted h2⟩
      rcases mem_insR.mp hy with rfl | hy
      · exact hl
      · exact h1 y hy
    · split
      · exact h
      · rename_i a b
        have hr : r < x := by grind
        refine List.pairwise_cons.mpr ⟨fun y hy => ?_, h⟩
        rcases List.mem_cons.mp hy with rfl | hy
        · exact hr
        · have := h1 y hy
          grind
theorem insR_len {r : Rat} : ∀ {xs : List Rat}, (insR r xs).length ≤ xs.length + 1
  | [] => by unfold insR; simp
  | x :: xs => by
    unfold insR
    split
    · rw [List.length_cons, List.length_cons]
      have := insR_len (r := r) (xs := xs)
      omega
    · split <;> simp
/-- at the first that isn't less -/
theorem insR_at {r : Rat} : ∀ {xs : List Rat} {p : Nat}, (∀ x ∈ xs.take p, x < r) → p ≤ xs.length → (∀ x, xs[p]? = some x → ¬ x < r) → insR r xs = if xs[p]? = some r then xs else xs.take p ++ [r] ++ xs.drop p
  | [], p, _, hp, _ => by
    have : p = 0 := by simpa using hp
    subst this
    rfl
  | x :: xs, 0, _, _, hs => by
    have hx := hs x rfl
    unfold insR
    rw [if_neg hx]
    by_cases e : x = r
    · rw [if_pos e, if_pos (by rw [e]; rfl)]
    · rw [if_neg e, if_neg (show ¬ (x :: xs)[0]? = some r from fun z => e (Option.some.inj z))]
      rfl
  | x :: xs, p + 1, h, hp, hs => by
    have hx := h x (by rw [List.take_succ_cons]; exact List.mem_cons_self)
    unfold insR
    rw [if_pos hx, insR_at (xs := xs) (p := p) (fun y hy => h y (by rw [List.take_succ_cons]; exact List.mem_cons_of_mem _ hy)) (by simpa using hp) (fun y hy => hs y (by simpa using hy))]
    rw [List.getElem?_cons_succ]
    split
    · rfl
    · rw [List.take_succ_cons, List.drop_succ_cons]
      rfl
theorem insR_mem {r : Rat} : ∀ {xs : List Rat}, xs.Pairwise (· < ·) → r ∈ xs → insR r xs = xs
  | x :: xs, h, m => by
    obtain ⟨h1, h2⟩ := List.pairwise_cons.mp h
    unfold insR
    rcases List.mem_cons.mp m with rfl | m
    · rw [if_neg (by grind), if_pos rfl]
    · rw [if_pos (h1 r m), insR_mem h2 m]
theorem insR_cnt {r : Rat} : ∀ {xs : List Rat}, xs.Pairwise (· < ·) → r ∉ xs → insR r xs = xs.take (xs.filter fun x => decide (x < r)).length ++ [r] ++ xs.drop (xs.filter fun x => decide (x < r)).length
  | [], _, _ => rfl
  | x :: xs, h, m => by
    obtain ⟨h1, h2⟩ := List.pairwise_cons.mp h
    have hne : x ≠ r := fun z => m (by rw [z]; exact List.mem_cons_self)
    unfold insR
    by_cases hx : x < r
    · rw [if_pos hx, insR_cnt h2 (fun z => m (List.mem_cons_of_mem _ z)), List.filter_cons_of_pos (by simpa using hx), List.length_cons, List.take_succ_cons, List.drop_succ_cons]
      rfl
    · have h0 : (x :: xs).filter (fun x => decide (x < r)) = [] := by
        rw [List.filter_eq_nil_iff]
        intro y hy
        rcases List.mem_cons.mp hy with rfl | hy
        · simpa using hx
        · have := h1 y hy
          simp
          grind
      rw [if_neg hx, if_neg hne, h0]
      rfl
def riseR (rs : List Rat) : List Rat := rs.foldl (fun fs r => insR r fs) []
theorem riseR_snoc (rs : List Rat) (r : Rat) : riseR (rs ++ [r]) = insR r (riseR rs) := by
  unfold riseR
  rw [List.foldl_append]
  rfl
theorem riseR_ind {P : List Rat → List Rat → Prop} (h0 : P [] []) (h : ∀ rs r, P rs (riseR rs) → P (rs ++ [r]) (insR r (riseR rs))) (rs : List Rat) : P rs (riseR rs) := by
  have key : ∀ n, P (rs.take n) (riseR (rs.take n)) := fun n => by
    induction n with
    | zero => rw [List.take_zero]; exact h0
    | succ n ih =>
      by_cases hn : n < rs.length
      · rw [List.take_add_one, List.getElem?_eq_getElem hn]
        show P (rs.take n ++ [rs[n]]) (riseR (rs.take n ++ [rs[n]]))
        rw [riseR_snoc]
        exact h _ _ ih
      · rw [List.take_of_length_le (by omega)]
        rw [List.take_of_length_le (by omega)] at ih
        exact ih
  have := key rs.length
  rwa [List.take_length] at this
theorem riseR_sorted (rs : List Rat) : (riseR rs).Pairwise (· < ·) := riseR_ind (P := fun _ fs => fs.Pairwise (· < ·)) .nil (fun _ _ h => insR_sorted h) rs
theorem mem_riseR {rs : List Rat} {y : Rat} : y ∈ riseR rs ↔ y ∈ rs := riseR_ind (P := fun rs fs => y ∈ fs ↔ y ∈ rs) (by simp) (fun rs r h => by rw [mem_insR, h, List.mem_append, List.mem_singleton]; exact Or.comm) rs
theorem riseR_len (rs : List Rat) : (riseR rs).length ≤ rs.length := riseR_ind (P := fun rs fs => fs.length ≤ rs.length) (Nat.le_refl _) (fun rs r h => by
  have := insR_len (r := r) (xs := riseR rs)
  rw [List.length_append, List.length_singleton]
  omega) rs
/-- the shares above nought, row by row -/
def posR (rows : List (List Rat)) : List Rat := rows.flatMap fun row => row.filter fun r => decide (r.num > 0)
def thrs (rows : List (List Rat)) : List Rat := riseR (posR rows)
theorem mem_posR {rows : List (List Rat)} {r : Rat} : r ∈ posR rows ↔ 0 < r ∧ ∃ row ∈ rows, r ∈ row := by
  unfold posR
  rw [List.mem_flatMap]
  have e : r.num > 0 ↔ 0 < r := by
    rw [Rat.lt_iff]
    simp
  constructor
  · rintro ⟨row, h1, h2⟩
    obtain ⟨h3, h4⟩ := List.mem_filter.mp h2
    exact ⟨e.mp (of_decide_eq_true h4), row, h1, h3⟩
  · rintro ⟨h1, row, h2, h3⟩
    exact ⟨row, h2, List.mem_filter.mpr ⟨h3, decide_eq_true (e.mpr h1)⟩⟩
theorem mem_thrs {rows : List (List Rat)} {r : Rat} : r ∈ thrs rows ↔ 0 < r ∧ ∃ row ∈ rows, r ∈ row := mem_riseR.trans mem_posR
/-- whose a place is -/
def ownerOf (ps : List Int) (os : List Nat) (last : Nat) (th : Rat) (row : List Rat) : Int := ps.getD (ownAt (fun i => row.getD i 0) os last th) 0
theorem find_at {α : Type} {p : α → Bool} : ∀ {os : List α} {j : Nat} {i : α}, os[j]? = some i → (∀ k ∈ os.take j, p k = false) → p i = true → os.find? p = some i
  | o :: os, 0, i, h, _, hp => by
    cases h
    rw [List.find?_cons, hp]
  | o :: os, j + 1, i, h, hb, hp => by
    rw [List.take_succ_cons] at hb
    rw [List.find?_cons, hb o List.mem_cons_self]
    exact find_at (j := j) (by simpa using h) (fun k hk => hb k (List.mem_cons_of_mem _ hk)) hp
theorem ownAt_hit {x : Nat → Rat} {os : List Nat} {last j i : Nat} {th : Rat} (h : os[j]? = some i) (hb : ∀ k ∈ os.take j, x k < th) (hi : ¬ x i < th) : ownAt x os last th = i := by
  unfold ownAt
  rw [find_at h (fun k hk => by simp [hb k hk]) (by simp [hi])]
  rfl
theorem ownAt_last {x : Nat → Rat} {os : List Nat} {last : Nat} {th : Rat} (hb : ∀ k ∈ os, x k < th) : ownAt x os last th = last := by
  unfold ownAt
  rw [List.find?_eq_none.mpr fun k hk => by simp [hb k hk]]
  rfl
theorem ownAt_mem {x : Nat → Rat} {os : List Nat} {last : Nat} {th : Rat} : ownAt x os last th ∈ os ++ [last] := by
  unfold ownAt
  cases e : os.find? fun i => !decide (x i < th) with
  | none => exact List.mem_append_right _ List.mem_cons_self
  | some i => exact List.mem_append_left _ (List.mem_of_find?_eq_some e)
end Pw

/-! ## PwIns -/
namespace Pw
open PySem L2 Evl
def rIns : V → List V → Hp → VK → Prop := fun x vs H Q => ∃ (l : Addr) (xs : List V) (i : Int) (y : V), x = .ref l ∧ vs = [.int i, y] ∧ H l = some (.lst xs) ∧ xs.length < sizeLine ∧ 0 ≤ i ∧ i < 2 ^ 63 ∧ Q .non (upd H l (.lst (xs.take i.toNat ++ [y] ++ xs.drop i.toNat)))
theorem mt_insQ {X : Cx} : MtM X "list.insert" rIns := fun pins s σ H x xs v us Q I rx rv h => mt_insert pins s σ H x xs v us Q I rx rv h
section
variable {F : Fr} {K : PySem.W.Frag} {S S' : List Addr} {B B' H H' : Hp} {σ : L2.St} {Γ : En0} {i j : Nat} {d : PyData} {ds es : List PyData} {te tk ta : TE} {P : Po} {D : Ends} {α : Type}
theorem dqAll_ins {xs : List V} {v : V} (h : DqAll K B xs ds) (hv : Dq K B v d) (n : Nat) : DqAll K B (xs.take n ++ [v] ++ xs.drop n) (ds.take n ++ [d] ++ ds.drop n) := by
  rw [List.append_assoc, List.append_assoc]
  exact DqAll.app (dqAll_take h) (.cons hv (dqAll_drop h))
/-- x += e, numbers -/
theorem s_aug {g : Int → Int → Int} {x y : Int} (hi : Γ[i]? = some (some (.d (.int x)))) (h : EE F.K te Γ (.int y)) (kk : P.nx (Γ.set i (some (.d (.int (g x y)))))) : SX F (tAug i te (ipI g)) Γ P := fun S B H σ D e p => by
  obtain ⟨v, h1, h2⟩ := e.ok i _ hi
  cases (show Dq F.K B v (.int x) from h2)
  refine ⟨_, h1, e.evA h rfl fun z B1 H1 eB1 e1 rz => ?_⟩
  cases rz
  exact ⟨x, y, rfl, rfl, p.nx _ _ _ _ _ kk (e1.setD (.int _)) eB1⟩
/-- x.insert(k, e) -/
theorem s_ins {q : Int} (hi : Γ[i]? = some (some (.o .lst ds))) (hl : ds.length ≤ 40000) (hk : EE F.K tk Γ (.int q)) (h0 : 0 ≤ q ∧ q < 2 ^ 63) (h : EE F.K te Γ d) (ha : noL d = true) (kk : P.nx (Γ.set i (some (.o .lst (ds.take q.toNat ++ [d] ++ ds.drop q.toNat))))) : SX F (tDrop (tBM F.K "list" rIns (tVar i) (tCons tk (tCons te tNil)))) Γ P := fun S B H σ D e p => by
  obtain ⟨v, h1, ⟨a, xs, rfl, h3, h4, h5, h6⟩⟩ := e.ok i _ hi
  have h5 : H a = some (.lst xs) := h5
  refine ⟨_, h1, .inl ⟨rfl, _, sq_of h5⟩, e.evA hk rfl fun z B1 H1 eB1 e1 rz => e1.evA h ha fun y B2 H2 eB2 e2 ry => ?_⟩
  cases rz
  obtain ⟨v', g1, ⟨a', xs', g2, g3, g4, g5, g6⟩⟩ := e2.ok i _ hi
  rw [h1] at g1
  cases g1
  cases g2
  have g5 : H2 a = some (.lst xs') := g5
  have l1 := DqAll.length g6
  refine ⟨a, xs', q, y, rfl, rfl, g5, ?_, h0.1, h0.2, ?_⟩
  · have : sizeLine = 100000 ∨ 40000 < sizeLine := .inr (by decide)
    omega
  · exact p.nx _ _ _ _ _ kk (e2.chg (s' := .lst) hi h1 (dqAll_ins g6 ry _)) (eB1.trans eB2)
theorem dqAll_rvs : ∀ {xs : List V} {ds : List PyData}, DqAll K B xs ds → DqAll K B xs.reverse ds.reverse
  | _, _, .nil => .nil
  | _, _, .cons g1 g2 => by
    rw [List.reverse_cons, List.reverse_cons]
    exact DqAll.snoc (dqAll_rvs g2) g1
/-- x.reverse() -/
theorem s_rvs (hi : Γ[i]? = some (some (.o .lst ds))) (kk : P.nx (Γ.set i (some (.o .lst ds.reverse)))) : SX F (tDrop (tBM0 F.K "list" rReverse (tVar i))) Γ P := fun S B H σ D e p => by
  obtain ⟨v, h1, ⟨a, xs, rfl, h3, h4, h5, h6⟩⟩ := e.ok i _ hi
  have h5 : H a = some (.lst xs) := h5
  have hr : DqAll F.K B xs.reverse ds.reverse := dqAll_rvs h6
  exact ⟨_, h1, .inl ⟨rfl, _, sq_of h5⟩, a, xs, rfl, rfl, h5, p.nx _ _ _ _ _ kk (e.chg (s' := .lst) hi h1 hr) (Ex.refl _)⟩
theorem cutA_init (xs : List α) : cutA xs none (some (-1)) = xs.dropLast := by
  unfold cutA
  show (xs.drop 0).take (HT.sIx xs.length xs.length (some (-1)) - 0) = _
  have e : HT.sIx xs.length xs.length (some (-1)) = xs.length - 1 := by
    show ((-1 : Int) + (xs.length : Int)).toNat = _
    omega
  rw [e, List.drop_zero, Nat.sub_zero, List.dropLast_eq_take]
theorem cutA_one (xs : List α) (p : Nat) : cutA xs (some ((p : Nat) : Int)) (some ((p : Int) + 1)) = (xs.drop p).take 1 := by
  unfold cutA
  have e : ((p : Int) + 1) = ((p + 1 : Nat) : Int) := by omega
  rw [e, HT.sIx_nat, HT.sIx_nat]
  by_cases h : p < xs.length
  · rw [Nat.min_eq_left (by omega), Nat.min_eq_left (by omega)]
    congr 1
    omega
  · rw [Nat.min_eq_right (by omega), Nat.min_eq_right (by omega), List.drop_of_length_le (by omega), List.drop_of_length_le (by omega)]
    simp
theorem eqv_ratL : ∀ as bs : List Rat, PyData.eqvAll (as.map ratD) (bs.map ratD) = decide (as = bs)
  | [], [] => by simp [PyData.eqvAll]
  | [], b :: bs => by simp [PyData.eqvAll]
  | a :: as, [] => by simp [PyData.eqvAll]
  | a :: as, b :: bs => by
    show (PyData.eqv (ratD a) (ratD b) && PyData.eqvAll (as.map ratD) (bs.map ratD)) = _
    rw [eqv_ratL as bs, eqv_rat]
    by_cases h1 : a = b <;> by_cases h2 : as = bs <;> simp [h1, h2]
theorem eqv_ratLs (as bs : List Rat) : PyData.eqv (.list (as.map ratD)) (.list (bs.map ratD)) = decide (as = bs) := by
  show PyData.eqvAll _ _ = _
  exact eqv_ratL as bs
theorem shp_ratL (as : List Rat) : Shp 2 (.list (as.map ratD)) := shp_list fun x hx => by
  obtain ⟨r, _, rfl⟩ := List.mem_map.mp hx
  exact shp_rat r
theorem any_rat (rs : List Rat) (r : Rat) : ((rs.map ratD).any fun z => PyData.eqv z (ratD r)) = decide (r ∈ rs) := by
  rw [Bool.eq_iff_iff, decide_eq_true_iff, List.any_map, List.any_eq_true]
  constructor
  · rintro ⟨x, hx, e⟩
    rw [Function.comp_apply, eqv_rat, decide_eq_true_iff] at e
    rw [← e]
    exact hx
  · intro h
    exact ⟨r, h, by rw [Function.comp_apply, eqv_rat]; exact decide_eq_true rfl⟩
end
section
variable {F : Fr} {K : PySem.W.Frag} {Γ : En0} {te : TE} {tt : TT} {wi : TI} {g : TG} {es : List PyData}
/-- [e for x in l if t], as a list of one's own -/
theorem eo_lc {α : Type} (l : List α) (enc : α → PyData) (f : α → Bool) (e : α → PyData) {vs : List Nat} (hk : EW K wi Γ (l.map enc)) (hl : l.length ≤ 40000) (turn : ∀ a ∈ l, NTurn K g tt te Γ vs (enc a) (f a) (e a)) : EO K (tLc wi g tt te vs) Γ ((l.filter f).map e) :=
  fun σ B S H hE w Q q => lc_ownP l enc f e (hk σ B hE) hl (fun a ha => turn a ha σ B hE) w q
theorem eo_lc1 {α : Type} (l : List α) (enc : α → PyData) (e : α → PyData) {vs : List Nat} (hk : EW K wi Γ (l.map enc)) (hl : l.length ≤ 40000) (turn : ∀ a ∈ l, NTurn K g tYes te Γ vs (enc a) true (e a)) : EO K (tLc wi g tYes te vs) Γ (l.map e) :=
  eo_is (eo_lc l enc (fun _ => true) e hk hl turn) (by rw [List.filter_eq_self.mpr fun _ _ => rfl])
/-- a name bound to a list of one's own -/
theorem s_asgO {i : Nat} {P : Po} {ds : List PyData} (h : EO F.K te (hide Γ) ds) (kk : P.nx (Γ.set i (some (.o .lst ds)))) : SX F (tAsg te (gName i)) Γ P := s_lc (fun σ B S H hE w Q q => h σ B S H hE w Q q) kk
end
/-- an order of the posts' numbers -/
def ordD (os : List Nat) (last : Nat) : PyData := .list ((os ++ [last]).map fun i => PyData.int (i : Nat))
end Pw

/-! ## PwSmall -/
namespace Pw
open PySem L2 Evl
/-! ### few places, few ties, posts among them -/
def Lt9 (kvs : List (List Key × V)) : Prop := ∀ p ∈ kvs, ∀ w : Int, p.2 = .int w → w ≤ 1000000000
theorem Lt9.put {kvs : List (List Key × V)} {k : List Key} {w : Int} (h : Lt9 kvs) (hw : w ≤ 1000000000) : Lt9 (putK kvs k (.int w)) := fun p hp x hx => by
  rcases putK_mem hp with hp | rfl
  · exact h p hp x hx
  · cases hx
    exact hw
theorem valV_in9 {κ : Type} [DecidableEq κ] : ∀ {kvs : List (κ × V)} {k : κ} {v : V}, valV kvs k = some v → ∃ p ∈ kvs, p.2 = v
  | [], _, _, h => by simp [valV] at h
  | p :: r, k, v, h => by
    by_cases e : p.1 = k
    · rw [valV_pos e] at h
      exact ⟨p, List.mem_cons_self, Option.some.inj h⟩
    · rw [valV_neg e] at h
      obtain ⟨q, hq, e2⟩ := valV_in9 h
      exact ⟨q, List.mem_cons_of_mem _ hq, e2⟩
structure SmallW (n : Int) (ts : List Tie) (ps : List Int) : Prop where
  W : WebOk n ts
  hw : ∀ t ∈ ts, t.2.2 ≤ 1000000000
  n8 : n ≤ 8
  t9 : ts.length ≤ 9
  P : PostsOk n ps
  p2 : 2 ≤ ps.length
  p4 : ps.length ≤ 4
def spSmall (K : PySem.W.Frag) : Sp := fun vs H Q _ => ∃ (S : List Addr) (b : Addr) (c : Nat), vs = [.ref b] ∧ b ∈ S ∧ (∀ s ∈ S, ∃ o, H s = some o) ∧ BoxAt H b c ∧ c + 1000 < 2 ^ 40 ∧
  ∀ v H' n ts ps, SmallW n ts ps → Dq K (mi H' S) v (.tuple [webD n ts, .list (ps.map .int)]) → Bx b (c + 1000) H H' → Q v H'
theorem small_ok {K : PySem.W.Frag} : DrawOk K (spSmall K) 1000 [] fun d => ∃ n ts ps, d = .tuple [webD n ts, .list (ps.map .int)] ∧ SmallW n ts ps := fun S B H b c us Q E w hb hB hc hd q => by
  cases hd
  exact ⟨S, b, c, rfl, hb, w.at_, hB, hc, fun v H' n ts ps hw hv x => q v H' _ ⟨n, ts, ps, rfl, hw⟩ x.x x.at_ hv⟩
end Pw

/-! ## PwPull -/
namespace Pw
open PySem L2 Evl
/-! ### pulls -/
def oneS (p : Int) (x : Tie × Rat) : Rat := (if x.1.1 = p then x.2 else 0) + (if x.1.2.1 = p then -x.2 else 0)
def gvR (ts : List Tie) (pull : List Rat) (p : Int) : Rat := sumR ((ts.zip pull).map (oneS p))
def minF (m : Rat) (rs : List Rat) : Rat := rs.foldl (fun m r => if r < m then r else m) m
theorem minF_snoc (m : Rat) (rs : List Rat) (r : Rat) : minF m (rs ++ [r]) = if r < minF m rs then r else minF m rs := by
  unfold minF
  rw [List.foldl_append]
  rfl
theorem minF_head (m : Rat) (rs : List Rat) : minF m (m :: rs) = minF m rs := by
  show minF (if m < m then m else m) rs = _
  congr 1
  split <;> rfl
theorem minF_mem : ∀ (rs : List Rat) (m : Rat), minF m rs ∈ m :: rs
  | [], m => List.mem_cons_self
  | r :: rs, m => by
    show minF (if r < m then r else m) rs ∈ _
    split
    · exact List.mem_cons_of_mem _ (minF_mem rs r)
    · rcases List.mem_cons.mp (minF_mem rs m) with h | h
      · rw [h]; exact List.mem_cons_self
      · exact List.mem_cons_of_mem _ (List.mem_cons_of_mem _ h)
theorem minF_le : ∀ (rs : List Rat) (m : Rat), ∀ r ∈ m :: rs, minF m rs ≤ r
  | [], m, r, h => by rw [List.mem_singleton.mp h]; exact Rat.le_refl
  | x :: rs, m, r, h => by
    show minF (if x < m then x else m) rs ≤ r
    split
    · rename_i g
      rcases List.mem_cons.mp h with rfl | h
      · have := minF_le rs x x List.mem_cons_self
        grind
      · exact minF_le rs x r h
    · rename_i g
      rcases List.mem_cons.mp h with rfl | h
      · exact minF_le rs r r List.mem_cons_self
      · rcases List.mem_cons.mp h with rfl | h
        · have := minF_le rs m m List.mem_cons_self
          grind
        · exact minF_le rs m r (List.mem_cons_of_mem _ h)
def lowR (ts : List Tie) (pulls : List (List Rat)) (p : Int) : Rat := minF (gvR ts (pulls.headD []) p) (pulls.tail.map fun r => gvR ts r p)
theorem low_mem {ts : List Tie} {pulls : List (List Rat)} {p : Int} (h : pulls ≠ []) : lowR ts pulls p ∈ pulls.map fun r => gvR ts r p := by
  match pulls, h with
  | r :: rs, _ => exact minF_mem _ _
theorem low_le {ts : List Tie} {pulls : List (List Rat)} {p : Int} : ∀ r ∈ pulls, lowR ts pulls p ≤ gvR ts r p := fun r hr => by
  match pulls, hr with
  | a :: rs, hr => exact minF_le (rs.map fun r => gvR ts r p) (gvR ts a p) _ (show gvR ts r p ∈ (a :: rs).map (fun r => gvR ts r p) from List.mem_map.mpr ⟨r, hr, rfl⟩)
def ownG (ts : List Tie) (ps : List Int) (pulls : List (List Rat)) : List Rat := ps.zipIdx.map fun x => gvR ts (pulls.getD x.2 []) x.1
def restG (n : Int) (ps : List Int) : List Int := (rngI 0 n.toNat).filter fun p => !decide (p ∈ ps)
def floorR (n : Int) (ts : List Tie) (ps : List Int) (pulls : List (List Rat)) : Rat := sumR (ownG ts ps pulls ++ (restG n ps).map (lowR ts pulls))
structure PullsOk (L : Nat) (ts : List Tie) (ps : List Int) (pulls : List (List Rat)) : Prop where
  L0 : 0 < L
  L1 : L < 2 ^ 1000
  len : pulls.length = ps.length
  row : ∀ r ∈ pulls, r.length = ts.length ∧ ∀ x ∈ r, FB L 1000000000 x
theorem oneS_fb {L V : Nat} {p : Int} {x : Tie × Rat} (h : FB L V x.2) : FB L (2 * V) (oneS p x) := by
  unfold oneS
  have z : FB L V (0 : Rat) := FB.zero.mono (Nat.dvd_refl _) (Nat.zero_le _)
  have g1 : FB L V (if x.1.1 = p then x.2 else 0) := by
    split
    · exact h
    · exact z
  have g2 : FB L V (if x.1.2.1 = p then -x.2 else 0) := by
    split
    · exact h.neg
    · exact z
  exact (g1.add g2).mono (Nat.dvd_refl _) (by omega)
theorem gvR_fb {L : Nat} {ts : List Tie} {pull : List Rat} (ht : ts.length ≤ 9) (h : ∀ x ∈ pull, FB L 1000000000 x) (p : Int) : FB L 18000000000 (gvR ts pull p) := by
  unfold gvR
  refine (FB.sum ((ts.zip pull).map (oneS p)) (V := 2000000000) fun r hr => ?_).mono (Nat.dvd_refl _) ?_
  · obtain ⟨x, hx, rfl⟩ := List.mem_map.mp hr
    exact oneS_fb (h x.2 (List.of_mem_zip hx).2)
  · rw [List.length_map, List.length_zip]
    omega
theorem gvR_take_fb {L : Nat} {ts : List Tie} {pull : List Rat} (ht : ts.length ≤ 9) (h : ∀ x ∈ pull, FB L 1000000000 x) (p : Int) (i : Nat) : FB L 18000000000 (sumR (((ts.zip pull).take i).map (oneS p))) := by
  refine (FB.sum (((ts.zip pull).take i).map (oneS p)) (V := 2000000000) fun r hr => ?_).mono (Nat.dvd_refl _) ?_
  · obtain ⟨x, hx, rfl⟩ := List.mem_map.mp hr
    exact oneS_fb (h x.2 (List.of_mem_zip (List.mem_of_mem_take hx)).2)
  · rw [List.length_map, List.length_take, List.length_zip]
    omega
theorem bit_of_fb {L V : Nat} {r : Rat} (h : FB L V r) (h0 : 0 < L) (h1 : L < 2 ^ 1000) (hV : V < 2 ^ 100) : RBit r 1200 := by
  refine h.bit h0 (Nat.lt_of_le_of_lt (Nat.mul_le_mul (Nat.succ_le_of_lt hV) (Nat.le_of_lt h1)) ?_)
  rw [← Nat.pow_add]
  exact Nat.pow_lt_pow_right (by decide) (by decide)
theorem PullsOk.gv {L : Nat} {ts : List Tie} {ps : List Int} {pulls : List (List Rat)} (h : PullsOk L ts ps pulls) (ht : ts.length ≤ 9) {r : List Rat} (hr : r ∈ pulls) (p : Int) : FB L 18000000000 (gvR ts r p) := gvR_fb ht (h.row r hr).2 p
theorem PullsOk.low {L : Nat} {ts : List Tie} {ps : List Int} {pulls : List (List Rat)} (h : PullsOk L ts ps pulls) (ht : ts.length ≤ 9) (hp : pulls ≠ []) (p : Int) : FB L 18000000000 (lowR ts pulls p) := by
  obtain ⟨r, hr, e⟩ := List.mem_map.mp (low_mem (ts := ts) (p := p) hp)
  rw [← e]
  exact h.gv ht hr p
theorem PullsOk.parts {L : Nat} {n : Int} {ts : List Tie} {ps : List Int} {pulls : List (List Rat)} (h : PullsOk L ts ps pulls) (ht : ts.length ≤ 9) (hp : pulls ≠ []) : ∀ r ∈ ownG ts ps pulls ++ (restG n ps).map (lowR ts pulls), FB L 18000000000 r := fun r hr => by
  rcases List.mem_append.mp hr with hr | hr
  · obtain ⟨x, hx, rfl⟩ := List.mem_map.mp hr
    have hi := List.mem_zipIdx hx
    have : pulls.getD x.2 [] ∈ pulls := by
      rw [List.getD_eq_getElem?_getD, List.getElem?_eq_getElem (by have := h.len; omega)]
      exact List.getElem_mem _
    exact h.gv ht this x.1
  · obtain ⟨p, _, rfl⟩ := List.mem_map.mp hr
    exact h.low ht hp p
theorem rest_len (n : Int) (ps : List Int) : (restG n ps).length ≤ n.toNat := Nat.le_trans (List.length_filter_le _ _) (by rw [rngI_len]; exact Nat.le_refl _)
theorem floor_fb {L : Nat} {n : Int} {ts : List Tie} {ps : List Int} {pulls : List (List Rat)} (h : PullsOk L ts ps pulls) (ht : ts.length ≤ 9) (hp : pulls ≠ []) (hn : n ≤ 8) (hps : ps.length ≤ 4) : FB L 216000000000 (floorR n ts ps pulls) := by
  refine (FB.sum _ (h.parts (n := n) ht hp)).mono (Nat.dvd_refl _) ?_
  have := rest_len n ps
  rw [List.length_append, List.length_map]
  unfold ownG
  rw [List.length_map, List.length_zipIdx]
  omega
/-- by the places as they are numbered -/
def placeG (ts : List Tie) (ps : List Int) (pulls : List (List Rat)) (p : Int) : Rat := if p ∈ ps then gvR ts (pulls.getD (ps.idxOf p) []) p else lowR ts pulls p
theorem sumR_split {α : Type} (c : α → Bool) (f : α → Rat) : ∀ l : List α, sumR (l.map f) = sumR ((l.filter c).map f) + sumR ((l.filter fun x => !c x).map f)
  | [] => by show (0 : Rat) = 0 + 0; rw [Rat.zero_add]
  | a :: l => by
    have ih := sumR_split c f l
    show f a + sumR (l.map f) = _
    rw [List.filter_cons, List.filter_cons, ih]
    cases c a with
    | true => show _ = (f a + sumR ((l.filter c).map f)) + sumR ((l.filter fun x => !c x).map f); rw [Rat.add_assoc]
    | false => show _ = sumR ((l.filter c).map f) + (f a + sumR ((l.filter fun x => !c x).map f)); grind
theorem rest_post {n : Int} {ps : List Int} (hP : PostsOk n ps) : (rngI 0 n.toNat).filter (fun p => decide (p ∈ ps)) = ps := sorted_eq ((rngI_lt _ _).filter _) hP.rise fun x => by
  rw [List.mem_filter, rngI_mem, decide_eq_true_iff]
  constructor
  · exact fun h => h.2
  · intro h
    have := hP.rng x h
    exact ⟨by omega, h⟩
theorem idx_of {ps : List Int} (hn : ps.Nodup) {i : Nat} (hi : i < ps.length) : ps.idxOf ps[i] = i := List.Nodup.idxOf_getElem hn i hi
theorem floor_places {n : Int} {ts : List Tie} {ps : List Int} {pulls : List (List Rat)} (hP : PostsOk n ps) : sumR ((rngI 0 n.toNat).map (placeG ts ps pulls)) = floorR n ts ps pulls := by
  have hn : ps.Nodup := List.nodup_iff_pairwise_ne.mpr (hP.rise.imp fun h e => by omega)
  unfold floorR
  rw [sumR_split (fun p => decide (p ∈ ps)), rest_post hP, sumR_app]
  congr 1
  · congr 1
    unfold ownG
    refine List.ext_getElem? fun i => ?_
    rw [List.getElem?_map, List.getElem?_map, List.getElem?_zipIdx]
    by_cases hi : i < ps.length
    · rw [List.getElem?_eq_getElem hi]
      show some (placeG ts ps pulls ps[i]) = some (gvR ts (pulls.getD (0 + i) []) ps[i])
      unfold placeG
      rw [if_pos (List.getElem_mem hi), idx_of hn hi, Nat.zero_add]
    · rw [List.getElem?_eq_none (by omega)]
      rfl
  · unfold restG
    refine sumR_congr fun p hp => ?_
    have := (List.mem_filter.mp hp).2
    unfold placeG
    rw [if_neg (by simpa using this)]
section
variable {F : Fr} {K : PySem.W.Frag} {Γ : En0} {te ta : TE} {d : PyData} {P : Po}
/-- xs.index(x) -/
theorem n_index {ns : List Int} {x : Int} (h : EE K te Γ (.list (ns.map .int))) (ha : EE K ta Γ (.int x)) (hx : x ∈ ns) : EE K (tBM K "list" (rIndex K) te (tCons ta tNil)) Γ (.int (ns.idxOf x : Nat)) := fun σ B e =>
  evR_of (fun S H w Q q => (h σ B e).bind w fun v B1 H1 e1 eB1 w1 hv => by
    cases hv with
    | @lst l xs _ hs hd =>
    have exs := DqAll.ints_eq hd
    subst exs
    refine ⟨.inl ⟨rfl, _, ex_l w1.ex hs⟩, ((ha σ B e).mono eB1).bind w1 fun u B2 H2 e2 eB2 w2 hu => ?_⟩
    cases hu
    have hi := List.idxOf_lt_length_of_mem hx
    refine ⟨l, ns.map V.int, .int x, ns.idxOf x, .int x, rfl, rfl, ex_l (eB2.trans w2.ex) hs, rfl, List.all_eq_true.mpr fun y hy => ?_, ?_, by show (x == x) = true; simp, fun m z hm hz => ?_, q _ B2 H2 (e1.trans e2) (eB1.trans eB2) w2 (.int _)⟩
    · obtain ⟨i, _, rfl⟩ := List.mem_map.mp hy
      rfl
    · rw [List.getElem?_map, List.getElem?_eq_getElem hi, List.getElem_idxOf hi]
      rfl
    · rw [List.getElem?_map] at hz
      obtain ⟨y, hy, rfl⟩ := Option.map_eq_some_iff.mp hz
      show (y == x) = false
      obtain ⟨hl, rfl⟩ := List.getElem?_eq_some_iff.mp hy
      exact List.not_of_lt_findIdx (p := (· == x)) hm) stays_dp
end
theorem cutA_drop1 {α : Type} (xs : List α) : cutA xs (some 1) none = xs.drop 1 := by
  have e : (1 : Int) = ((1 : Nat) : Int) := rfl
  unfold cutA
  rw [e, HT.sIx_nat]
  have e2 : HT.sIx xs.length xs.length none = xs.length := rfl
  rw [e2]
  by_cases h : 1 ≤ xs.length
  · rw [Nat.min_eq_left h]
    exact List.take_of_length_le (by rw [List.length_drop]; omega)
  · rw [Nat.min_eq_right (by omega), List.drop_of_length_le (by omega), List.drop_of_length_le (by omega)]
    simp
theorem rng_set {f : Int → PyData} {m : Nat} {k : Int} (h0 : 0 ≤ k) (h1 : k < (m : Int)) (d : PyData) : ((rngI 0 m).map f).set k.toNat d = (rngI 0 m).map fun p => if p = k then d else f p := by
  refine List.ext_getElem? fun i => ?_
  rw [List.getElem?_map]
  by_cases hi : i < m
  · rw [rngI_get hi]
    by_cases e : k.toNat = i
    · rw [e, List.getElem?_set_self (by rw [List.length_map, rngI_len]; exact hi)]
      show some d = some (if (0 : Int) + (i : Int) = k then d else f (0 + (i : Int)))
      rw [if_pos (by omega)]
    · rw [List.getElem?_set_ne e, List.getElem?_map, rngI_get hi]
      show some (f (0 + (i : Int))) = some (if (0 : Int) + (i : Int) = k then d else f (0 + (i : Int)))
      rw [if_neg (by omega)]
  · rw [List.getElem?_eq_none (by rw [List.length_set, List.length_map, rngI_len]; omega), List.getElem?_eq_none (by rw [rngI_len]; omega)]
    rfl
theorem rng_at {f : Int → PyData} {m : Nat} {k : Int} (h0 : 0 ≤ k) (h1 : k < (m : Int)) : atI ((rngI 0 m).map f) k = some (f k) := atI_at h0 (by
  rw [List.getElem?_map, rngI_get (by omega)]
  show some (f (0 + ((k.toNat : Nat) : Int))) = _
  congr 2
  omega)
end Pw

/-! ## PwStrA -/
namespace Pw
open PySem PySem.Spec PyProof.Rows L2 Evl
open Builtin Builtin.Str Builtin.Int
/-! ### str(x) of any data -/
theorem str_of_none {prog : Program} {w : World} {A : Around} {E : Value → Shared → Prop} {s : Shared} {Q : Value → Shared → Prop} (h : Q (.str "None" s.toks) { s with toks := s.toks + 1 }) : wpAny (model prog w) A (call (.type "str") [.none]) Q E s :=
  callType_new F.called_str (by decide) (F.typeCall_str_1 _) (F.newCall_str_1 _) (fun obj => F.args_object_init_2 obj _) F.entry_str_new
    (meets_str_new (S := fun _ R s => R (.ok (.ret (.str "None" s.toks))) { s with toks := s.toks + 1 }) fun _ _ _ _ s hq =>
      wpAny_strOf_gives rfl (typeIs_none s) F.slot_NoneType_str F.slot_NoneType_repr F.entry_NoneType_repr (F.args_NoneType_repr_1 _) gives_none_repr hq (hsz := by decide)) ⟨typeIs_str _ _ _, h⟩
def txtD : PyData → Str
  | .none => "None"
  | .bool b => if b then "True" else "False"
  | .int i => toString i
  | .str x => x
  | d => d.shown
def StrOk (d : PyData) : Prop := (IsSeq d ∧ Sh 50 16000000 d) ∨ d = .none ∨ (∃ b, d = .bool b) ∨ (∃ i : Int, d = .int i ∧ i.natAbs.log2 < 1920) ∨ ∃ x, d = .str x
def rStrA (K : PySem.W.Frag) : List V → Hp → VK → Prop := fun vs H Q => ∃ v d, vs = [v] ∧ Dp K H v d ∧ StrOk d ∧ Q (.str (txtD d)) H
theorem cr_strA {X : Cx} (hg : X.A.guards = some []) (hu : X.A.units + 64 < cLine) : CallR X (.type "str") (rStrA X.K) := by
  intro pins s σ H vs us Q I r h
  obtain ⟨v, d, rfl, hd, hs, q⟩ := h
  rcases hs with ⟨⟨xs, hx⟩, sh⟩ | rfl | ⟨b, rfl⟩ | ⟨i, rfl, hi⟩ | ⟨x, rfl⟩
  · have e : txtD d = d.shown := by rcases hx with rfl | rfl <;> rfl
    have ha : ∃ a, v = .ref a := by
      rcases hx with rfl | rfl <;> cases hd <;> exact ⟨_, rfl⟩
    obtain ⟨a, rfl⟩ := ha
    refine cr_strD hg hu pins s σ H [.ref a] us Q I r ⟨a, d, rfl, hd, sh.sw, sh.nd, sh.dp, Nat.le_trans sh.ln (by decide), ?_⟩
    rw [← e]
    exact q
  · cases hd
    obtain ⟨u, rfl, ru⟩ := vals1 r
    cases ru
    exact str_of_none ⟨.str _, H, I.tok _, ⟨_, rfl⟩, q⟩
  · cases hd
    obtain ⟨u, rfl, ru⟩ := vals1 r
    cases ru
    exact PySem.P.str_of_bool ⟨.str _, H, I.tok _, ⟨_, rfl⟩, q⟩
  · cases hd
    exact call_str_int pins s σ H [.int i] us Q I r ⟨i, rfl, hi, q⟩
  · cases hd
    obtain ⟨u, rfl, t, rfl⟩ := vals1 r
    exact PySem.P.str_of_str ⟨.str x, H, I, ⟨t, rfl⟩, q⟩
section
variable {K : PySem.W.Frag} {Γ : En0} {te ta tb : TE} {d : PyData}
theorem n_strA (h : EE K te Γ d) (hs : StrOk d) : EE K (tCB (rStrA K) (tCons te tNil)) Γ (.str (txtD d)) := fun σ B e => evR_of (fun S H w Q q => (h σ B e).bind w fun v B' H' e' eB w' r =>
  ⟨v, d, rfl, Dq.dp (Dq.mono w'.ex r), hs, q _ _ _ e' eB w' (.str _)⟩) stays_dp
/-- == of a tuple that the module binds -/
theorem ktup_dp {a : Addr} {ns : List Int} {H : Hp} (h : KTup K a (ns.map V.int)) : L2.Dp K H (.ref a) (.tuple (ns.map .int)) := .tup (.inr h) (DqAll.dp (DqAll.ints (K := K) (H := H)))
theorem n_eqW {a : Addr} {ns : List Int} (t : KTup K a (ns.map V.int)) (h : EE K te Γ d) (s1 : SeqAt.shaped d = true) (s2 : SeqAt.shaped (.tuple (ns.map .int)) = true) : EE K (tOp (rEqD K) te (tC (.ref a))) Γ (.bool (PyData.eqv d (.tuple (ns.map .int)))) := fun σ B e => evR_of (fun S H w Q q => (h σ B e).bind w fun v B' H' e' eB w' r =>
  ⟨d, _, Dq.dp (Dq.mono w'.ex r), ktup_dp t, s1, s2, q _ _ _ e' eB w' (.bl _)⟩) stays_dp
end
/-! ### things of any kind -/
def Th : Nat → PyData → Prop
  | 0, d => (∀ kvs, d ≠ .dict kvs) ∧ (∀ i, d = .int i → Bit i 100)
  | n + 1, d => (∀ kvs, d ≠ .dict kvs) ∧ (∀ i, d = .int i → Bit i 100) ∧ ∀ t xs, d = seqD t xs → xs.length ≤ 1000 ∧ ∀ x ∈ xs, Th n x
theorem Th.nd {n : Nat} {d : PyData} (h : Th n d) : ∀ kvs, d ≠ .dict kvs := by
  cases n with
  | zero => exact h.1
  | succ n => exact h.1
theorem Th.bit {n : Nat} {d : PyData} (h : Th n d) : ∀ i, d = .int i → Bit i 100 := by
  cases n with
  | zero => exact h.2
  | succ n => exact h.2.1
theorem kit_any (x : PyData) (h : ∀ kvs, x ≠ .dict kvs) : kitB (tyN x) "tuple" = some (tyN x == "tuple") ∧ kitB (tyN x) "list" = some (tyN x == "list") ∧ kitB (tyN x) "int" = some (tyN x == "int" || tyN x == "bool") ∧ kitB (tyN x) "bool" = some (tyN x == "bool") := by
  match x with
  | .none => exact (by decide +kernel : kitB "NoneType" "tuple" = some ("NoneType" == "tuple") ∧ kitB "NoneType" "list" = some ("NoneType" == "list") ∧ kitB "NoneType" "int" = some ("NoneType" == "int" || "NoneType" == "bool") ∧ kitB "NoneType" "bool" = some ("NoneType" == "bool"))
  | .bool _ => exact (by decide +kernel : kitB "bool" "tuple" = some ("bool" == "tuple") ∧ kitB "bool" "list" = some ("bool" == "list") ∧ kitB "bool" "int" = some ("bool" == "int" || "bool" == "bool") ∧ kitB "bool" "bool" = some ("bool" == "bool"))
  | .int _ => exact (by decide +kernel : kitB "int" "tuple" = some ("int" == "tuple") ∧ kitB "int" "list" = some ("int" == "list") ∧ kitB "int" "int" = some ("int" == "int" || "int" == "bool") ∧ kitB "int" "bool" = some ("int" == "bool"))
  | .str _ => exact (by decide +kernel : kitB "str" "tuple" = some ("str" == "tuple") ∧ kitB "str" "list" = some ("str" == "list") ∧ kitB "str" "int" = some ("str" == "int" || "str" == "bool") ∧ kitB "str" "bool" = some ("str" == "bool"))
  | .list _ => exact (by decide +kernel : kitB "list" "tuple" = some ("list" == "tuple") ∧ kitB "list" "list" = some ("list" == "list") ∧ kitB "list" "int" = some ("list" == "int" || "list" == "bool") ∧ kitB "list" "bool" = some ("list" == "bool"))
  | .tuple _ => exact (by decide +kernel : kitB "tuple" "tuple" = some ("tuple" == "tuple") ∧ kitB "tuple" "list" = some ("tuple" == "list") ∧ kitB "tuple" "int" = some ("tuple" == "int" || "tuple" == "bool") ∧ kitB "tuple" "bool" = some ("tuple" == "bool"))
  | .dict kvs => exact absurd rfl (h kvs)
/-- a fraction in lowest terms -/
def partD : PyData → Bool
  | .tuple [.int a, .int b] => decide (1 ≤ b) && decide (Int.gcd a b = 1)
  | _ => false
def toR : PyData → Rat
  | .tuple [.int a, .int b] => Rat.divInt a b
  | _ => 0
theorem toR_rat (r : Rat) : toR (ratD r) = r := Rat.num_divInt_den r
theorem part_rat {x : PyData} (h : partD x = true) : x = ratD (toR x) := by
  match x, h with
  | .tuple [.int a, .int b], h =>
    have h : (decide (1 ≤ b) && decide (Int.gcd a b = 1)) = true := h
    rw [Bool.and_eq_true, decide_eq_true_iff, decide_eq_true_iff] at h
    show _ = ratD (Rat.divInt a b)
    rw [ratD_divInt (by omega), h.2]
    simp
theorem rat_part (r : Rat) : partD (ratD r) = true := by
  show (decide (1 ≤ (r.den : Int)) && decide (Int.gcd r.num r.den = 1)) = true
  rw [Bool.and_eq_true, decide_eq_true_iff, decide_eq_true_iff]
  refine ⟨by have := den_pos r; omega, ?_⟩
  have := r.reduced
  unfold Int.gcd
  simpa using this
/-! #### rows, shares -/
def rowXs : PyData → Option (List PyData)
  | .list xs => some xs
  | .tuple xs => some xs
  | _ => none
theorem th_cases {d : PyData} (h : ∀ kvs, d ≠ .dict kvs) : (∃ t xs, d = seqD t xs) ∨ (rowXs d = none ∧ (tyN d == "list") = false ∧ (tyN d == "tuple") = false) := by
  match d with
  | .none => exact .inr ⟨rfl, by decide, by decide⟩
  | .bool _ => exact .inr ⟨rfl, show ("bool" == "list") = false by decide, show ("bool" == "tuple") = false by decide⟩
  | .int _ => exact .inr ⟨rfl, show ("int" == "list") = false by decide, show ("int" == "tuple") = false by decide⟩
  | .str _ => exact .inr ⟨rfl, show ("str" == "list") = false by decide, show ("str" == "tuple") = false by decide⟩
  | .list xs => exact .inl ⟨false, xs, rfl⟩
  | .tuple xs => exact .inl ⟨true, xs, rfl⟩
  | .dict kvs => exact absurd rfl (h kvs)
theorem rowXs_seq (t : Bool) (xs : List PyData) : rowXs (seqD t xs) = some xs := by cases t <;> rfl
theorem kit_seqT (t : Bool) (xs : List PyData) : kitB (tyN (seqD t xs)) "list" = some (!t) ∧ kitB (tyN (seqD t xs)) "tuple" = some t := by
  cases t
  · exact (by decide +kernel : kitB "list" "list" = some true ∧ kitB "list" "tuple" = some false)
  · exact (by decide +kernel : kitB "tuple" "list" = some false ∧ kitB "tuple" "tuple" = some true)
def nonD (x : PyData) : Bool := decide (0 ≤ (toR x).num)
def rowB (k : Nat) (d : PyData) : Bool := match rowXs d with
  | some xs => (decide (xs.length = k) && xs.all partD) && (xs.all nonD && decide (sumR (xs.map toR) = 1))
  | none => false
theorem rowB_seq (k : Nat) (t : Bool) (xs : List PyData) : rowB k (seqD t xs) = ((decide (xs.length = k) && xs.all partD) && (xs.all nonD && decide (sumR (xs.map toR) = 1))) := by
  unfold rowB
  rw [rowXs_seq]
theorem parts_map {xs : List PyData} (h : xs.all partD = true) : xs = (xs.map toR).map ratD := by
  rw [List.map_map]
  conv => lhs; rw [← List.map_id xs]
  refine List.map_congr_left fun x hx => ?_
  exact part_rat (List.all_eq_true.mp h x hx)
def cellR (xs : List PyData) (p i : Nat) : Rat := match rowXs (xs.getD p .none) with
  | some row => toR (row.getD i .none)
  | none => 0
def sharesB (n : Int) (ps : List Int) (d : PyData) : Bool := match rowXs d with
  | some xs => (decide ((xs.length : Int) = n) && xs.all (rowB ps.length)) && (ps.zipIdx.all fun x => decide (cellR xs x.1.toNat x.2 = 1))
  | none => false
theorem sharesB_seq (n : Int) (ps : List Int) (t : Bool) (xs : List PyData) : sharesB n ps (seqD t xs) = ((decide ((xs.length : Int) = n) && xs.all (rowB ps.length)) && (ps.zipIdx.all fun x => decide (cellR xs x.1.toNat x.2 = 1))) := by
  unfold sharesB
  rw [rowXs_seq]
/-- one number that all lower ones divide -/
theorem small_FB : ∀ (rs : List Rat), (∀ r ∈ rs, RBit r 100) → ∃ L, 0 < L ∧ L ≤ (2 ^ 100) ^ rs.length ∧ ∀ r ∈ rs, FB L (2 ^ 100) r
  | [], _ => ⟨1, by decide, by simp, fun r h => by cases h⟩
  | r :: rs, h => by
    obtain ⟨L, h1, h2, h3⟩ := small_FB rs fun x hx => h x (List.mem_cons_of_mem _ hx)
    have hb := h r List.mem_cons_self
    have hd : r.den < 2 ^ 100 := by
      have := hb.d
      unfold Bit at this
      rwa [Int.natAbs_natCast] at this
    have hn : r.num.natAbs < 2 ^ 100 := hb.n
    have hp : 0 < r.den := r.den_pos
    refine ⟨r.den * L, Nat.mul_pos hp h1, ?_, fun x hx => ?_⟩
    · rw [List.length_cons, Nat.pow_succ, Nat.mul_comm]
      exact Nat.mul_le_mul h2 (Nat.le_of_lt hd)
    · rcases List.mem_cons.mp hx with rfl | hx
      · exact ⟨Nat.dvd_mul_right _ _, Nat.le_trans (Nat.le_of_lt hn) (Nat.le_mul_of_pos_right _ hp)⟩
      · exact (h3 x hx).mono (Nat.dvd_mul_left _ _) (Nat.le_refl _)
theorem th_parts {n : Nat} {xs : List PyData} (h : ∀ x ∈ xs, Th (n + 1) x) (hp : xs.all partD = true) : ∀ r ∈ xs.map toR, RBit r 100 := fun r hr => by
  obtain ⟨x, hx, rfl⟩ := List.mem_map.mp hr
  have e := part_rat (List.all_eq_true.mp hp x hx)
  have hT := h x hx
  rw [e] at hT
  have hs := (hT.2.2 true [.int (toR x).num, .int ((toR x).den : Int)] rfl).2
  exact ⟨(hs (.int (toR x).num) List.mem_cons_self).bit _ rfl, (hs (.int ((toR x).den : Int)) (List.mem_cons_of_mem _ List.mem_cons_self)).bit _ rfl⟩
theorem tup_or (x : PyData) : (∃ xs, x = .tuple xs) ∨ ((tyN x == "tuple") = false ∧ partD x = false) := by
  match x with
  | .tuple xs => exact .inl ⟨xs, rfl⟩
  | .none => exact .inr ⟨by decide, rfl⟩
  | .bool _ => exact .inr ⟨show ("bool" == "tuple") = false by decide, rfl⟩
  | .str _ => exact .inr ⟨show ("str" == "tuple") = false by decide, rfl⟩
  | .list _ => exact .inr ⟨show ("list" == "tuple") = false by decide, rfl⟩
  | .int _ => exact .inr ⟨show ("int" == "tuple") = false by decide, rfl⟩
  | .dict _ => exact .inr ⟨show ("dict" == "tuple") = false by decide, rfl⟩
theorem int_or (x : PyData) : (∃ i, x = .int i) ∨ ((tyN x == "int") = false ∧ ∀ y, partD (.tuple [x, y]) = false ∧ partD (.tuple [y, x]) = false) := by
  match x with
  | .int i => exact .inl ⟨i, rfl⟩
  | .tuple _ => exact .inr ⟨show ("tuple" == "int") = false by decide, fun y => ⟨rfl, by cases y <;> rfl⟩⟩
  | .none => exact .inr ⟨by decide, fun y => ⟨rfl, by cases y <;> rfl⟩⟩
  | .bool _ => exact .inr ⟨show ("bool" == "int") = false by decide, fun y => ⟨rfl, by cases y <;> rfl⟩⟩
  | .str _ => exact .inr ⟨show ("str" == "int") = false by decide, fun y => ⟨rfl, by cases y <;> rfl⟩⟩
  | .list _ => exact .inr ⟨show ("list" == "int") = false by decide, fun y => ⟨rfl, by cases y <;> rfl⟩⟩
  | .dict _ => exact .inr ⟨show ("dict" == "int") = false by decide, fun y => ⟨rfl, by cases y <;> rfl⟩⟩
theorem len_tup {n : Nat} (t : Bool) {xs : List PyData} (h : Th (n + 1) (seqD t xs)) : xs.length ≤ 1000 ∧ ∀ x ∈ xs, Th n x := h.2.2 t xs rfl
theorem eqv_rat1 (r : Rat) : PyData.eqv (ratD r) (.tuple (List.map PyData.int [1, 1])) = decide (r = 1) := eqv_rat r 1
theorem eqv_rat1' (r : Rat) : PyData.eqv (ratD r) (.tuple [.int 1, .int 1]) = decide (r = 1) := eqv_rat r 1
end Pw

/-! ## PwBent -/
namespace Pw
open PySem PySem.Spec PyProof.Rows L2 Evl
open Builtin Builtin.Str Builtin.Int
/-! ### things that are bent -/
theorem mem_cut {α : Type} {xs : List α} {lo hi : Option Int} {x : α} (h : x ∈ cutA xs lo hi) : x ∈ xs := by
  unfold cutA at h
  exact List.mem_of_mem_drop (List.mem_of_mem_take h)
theorem len_cut {α : Type} (xs : List α) (lo hi : Option Int) : (cutA xs lo hi).length ≤ xs.length := by
  unfold cutA
  rw [List.length_take, List.length_drop]
  omega
def szT : Nat → Nat
  | 0 => 450
  | 1 => 1400
  | 2 => 25000
  | _ => 2000000
def capT : Nat → Nat
  | 0 => 3
  | 1 => 16
  | _ => 64
def Tg (n : Nat) (d : PyData) : Prop := Th n d ∧ Sh (n + 1) (szT n) d
theorem seqD_inj {t u : Bool} {xs ys : List PyData} (h : seqD t xs = seqD u ys) : xs = ys := by
  cases t <;> cases u <;> cases h <;> rfl
theorem tg_seq {n : Nat} {t : Bool} {xs : List PyData} (hn : n ≤ 2) (h : ∀ x ∈ xs, Tg n x) (hl : xs.length ≤ capT n) : Tg (n + 1) (seqD t xs) := by
  refine ⟨⟨fun kvs e => (by cases t <;> cases e), fun i e => (by cases t <;> cases e), fun u ys e => ?_⟩, ?_⟩
  · rw [← seqD_inj e]
    refine ⟨?_, fun x hx => (h x hx).1⟩
    have : capT n ≤ 64 := by
      match n, hn with
      | 0, _ => decide
      | 1, _ => decide
      | 2, _ => decide
    omega
  · refine (sh_seq (fun x hx => (h x hx).2) hl).more (Nat.le_refl _) ?_
    match n, hn with
    | 0, _ => decide
    | 1, _ => decide
    | 2, _ => decide
theorem th_atom {n : Nat} {d : PyData} (h1 : ∀ kvs, d ≠ .dict kvs) (h2 : ∀ i, d = .int i → Bit i 100) (h3 : ∀ t xs, d ≠ seqD t xs) : Th n d := by
  cases n with
  | zero => exact ⟨h1, h2⟩
  | succ n => exact ⟨h1, h2, fun t xs e => absurd e (h3 t xs)⟩
theorem sz_ge (n : Nat) : 450 ≤ szT n := by
  unfold szT
  split <;> omega
theorem tg_int {n : Nat} {i : Int} (h : i.natAbs ≤ 1000000) : Tg n (.int i) := by
  refine ⟨th_atom (fun kvs e => by cases e) (fun j e => ?_) (fun t xs e => by cases t <;> cases e), (sh_int (Nat.lt_of_le_of_lt h (by decide))).more (by omega) (Nat.le_trans (by decide) (sz_ge n))⟩
  cases e
  exact Nat.lt_of_le_of_lt h (by decide)
theorem tg_non {n : Nat} : Tg n .none := ⟨th_atom (fun kvs e => by cases e) (fun j e => by cases e) (fun t xs e => by cases t <;> cases e), sh_non.more (by omega) (Nat.le_trans (by decide) (sz_ge n))⟩
theorem tg_bool {n : Nat} {b : Bool} : Tg n (.bool b) := ⟨th_atom (fun kvs e => by cases e) (fun j e => by cases e) (fun t xs e => by cases t <;> cases e), sh_bool.more (by omega) (Nat.le_trans (by decide) (sz_ge n))⟩
theorem sh_str {s : String} (h : (PySem.Str.ofString s).length ≤ 41) : Sh 1 412 (.str (PySem.Str.ofString s)) := by
  refine ⟨rfl, rfl, by simp [PyData.depth], ?_⟩
  show (reprText (PySem.Str.ofString s)).length ≤ 412
  refine Nat.le_trans (PySem.StrLaws.reprText_len _ fun c hc => ?_) (by omega)
  have : ∃ ch : Char, ch.toNat = c := by
    rw [PySem.Str.ofString_eq_toList] at hc
    have hc : c ∈ (s.toList.map Char.toNat).toArray.toList := hc
    rw [List.toList_toArray] at hc
    obtain ⟨ch, _, e2⟩ := List.mem_map.mp hc
    exact ⟨ch, e2⟩
  obtain ⟨ch, rfl⟩ := this
  exact Nat.lt_of_lt_of_le ch.val.toNat_lt (by decide)
theorem tg_str {n : Nat} {s : String} (h : (PySem.Str.ofString s).length ≤ 41) : Tg n (.str (PySem.Str.ofString s)) := ⟨th_atom (fun kvs e => by cases e) (fun j e => by cases e) (fun t xs e => by cases t <;> cases e), (sh_str h).more (by omega) (Nat.le_trans (by decide) (sz_ge n))⟩
theorem tg_strI {n : Nat} {i : Int} (h : i.natAbs ≤ 1000000) : Tg n (.str (PySem.Str.ofString (toString i))) := tg_str (by
  rw [PySem.ofString_length]
  exact int_text_length_le10 (k := 40) (by decide) (Nat.lt_of_le_of_lt h (by decide)))
theorem all_nil {α : Type} {p : α → Prop} : ∀ x ∈ ([] : List α), p x := fun x h => by cases h
theorem all_cons {α : Type} {p : α → Prop} {a : α} {l : List α} (h : p a) (t : ∀ x ∈ l, p x) : ∀ x ∈ a :: l, p x := List.forall_mem_cons.mpr ⟨h, t⟩
theorem all_app {α : Type} {p : α → Prop} {a b : List α} (h : ∀ x ∈ a, p x) (t : ∀ x ∈ b, p x) : ∀ x ∈ a ++ b, p x := fun x hx => (List.mem_append.mp hx).elim (h x) (t x)
theorem all_cut {α : Type} {p : α → Prop} {a : List α} {lo hi : Option Int} (h : ∀ x ∈ a, p x) : ∀ x ∈ cutA a lo hi, p x := fun x hx => h x (mem_cut hx)
theorem all_rep {α : Type} {p : α → Prop} {a : α} {n : Nat} (h : p a) : ∀ x ∈ List.replicate n a, p x := fun x hx => by rw [List.eq_of_mem_replicate hx]; exact h
theorem all_rev {α : Type} {p : α → Prop} {a : List α} (h : ∀ x ∈ a, p x) : ∀ x ∈ a.reverse, p x := fun x hx => h x (List.mem_reverse.mp hx)
theorem tg_t1 {n : Nat} {x : PyData} (hn : n ≤ 2) (h : Tg n x) : Tg (n + 1) (.tuple [x]) := tg_seq (t := true) hn (all_cons h all_nil) (by match n, hn with | 0, _ => exact Nat.le_of_ble_eq_true rfl | 1, _ => exact Nat.le_of_ble_eq_true rfl | 2, _ => exact Nat.le_of_ble_eq_true rfl)
theorem tg_t2 {n : Nat} {x y : PyData} (hn : n ≤ 2) (h : Tg n x) (g : Tg n y) : Tg (n + 1) (.tuple [x, y]) := tg_seq (t := true) hn (all_cons h (all_cons g all_nil)) (by match n, hn with | 0, _ => exact Nat.le_of_ble_eq_true rfl | 1, _ => exact Nat.le_of_ble_eq_true rfl | 2, _ => exact Nat.le_of_ble_eq_true rfl)
theorem tg_l2 {n : Nat} {x y : PyData} (hn : n ≤ 2) (h : Tg n x) (g : Tg n y) : Tg (n + 1) (.list [x, y]) := tg_seq (t := false) hn (all_cons h (all_cons g all_nil)) (by match n, hn with | 0, _ => exact Nat.le_of_ble_eq_true rfl | 1, _ => exact Nat.le_of_ble_eq_true rfl | 2, _ => exact Nat.le_of_ble_eq_true rfl)
theorem tg_t3 {n : Nat} {x y z : PyData} (hn : n ≤ 2) (h : Tg n x) (g : Tg n y) (k : Tg n z) : Tg (n + 1) (.tuple [x, y, z]) := tg_seq (t := true) hn (all_cons h (all_cons g (all_cons k all_nil))) (by match n, hn with | 0, _ => exact Nat.le_of_ble_eq_true rfl | 1, _ => exact Nat.le_of_ble_eq_true rfl | 2, _ => exact Nat.le_of_ble_eq_true rfl)
theorem tg_rat {n : Nat} {r : Rat} (hn : n ≤ 2) (h : r.den ≤ 60000) (g : r.num.natAbs ≤ 60000) : Tg (n + 1) (ratD r) := tg_t2 hn (tg_int (by omega)) (tg_int (by rw [Int.natAbs_natCast]; omega))
def Good (d : PyData) : Prop := Tg 3 d ∧ StrOk d
theorem good_seq {t : Bool} {xs : List PyData} (h : ∀ x ∈ xs, Tg 2 x) (hl : xs.length ≤ 64) : Good (seqD t xs) := by
  have := tg_seq (n := 2) (t := t) (by decide) h hl
  refine ⟨this, .inl ⟨?_, this.2.more (by decide) (by decide)⟩⟩
  cases t with
  | false => exact ⟨xs, .inl rfl⟩
  | true => exact ⟨xs, .inr rfl⟩
theorem row_bnd {k : Nat} {row : List Rat} (h : RowOk k row) : ∀ r ∈ row, r.den ≤ 60000 ∧ r.num.natAbs ≤ 60000 := fun r hr => by
  obtain ⟨_, _, _, s, hs, h6, hF⟩ := h
  have f := hF r hr
  have h1 := Nat.le_of_dvd hs f.d
  have h2 := f.n
  omega
theorem shares_th {n : Int} {ts : List Tie} {ps : List Int} {rows : List (List Rat)} {t : Bool} (h : ShW n ts ps rows) : Good (shD t rows) := by
  refine good_seq (fun x hx => ?_) (by rw [List.length_map]; have := h.rl; omega)
  obtain ⟨row, hr, rfl⟩ := List.mem_map.mp hx
  refine tg_seq (n := 1) (by decide) (fun x hx => ?_) (by rw [List.length_map, (h.S.row row hr).1]; exact Nat.le_trans h.p6 (by decide))
  obtain ⟨r, hr2, rfl⟩ := List.mem_map.mp hx
  have := row_bnd (h.S.row row hr) r hr2
  exact tg_rat (by decide) this.1 this.2
section
variable {K : PySem.W.Frag} {Γ : En0} {te : TE}
theorem n_strI {i : Int} (h : EE K te Γ (.int i)) (hi : i.natAbs.log2 < 1920) : EE K (tCB (fun xs H Q => ∃ i : Int, xs = [.int i] ∧ i.natAbs.log2 < 1920 ∧ Q (.str (PySem.Str.ofString (toString i))) H) (tCons te tNil)) Γ (.str (PySem.Str.ofString (toString i))) := fun σ B e => evR_of (fun S H w Q q => (h σ B e).bind w fun v B' H' e' eB w' r => by
  cases r
  exact ⟨i, rfl, hi, q _ _ _ e' eB w' (.str _)⟩) stays_dp
end
theorem n_notB {K : PySem.W.Frag} {Γ : En0} {ta tb : TE} {a b : Bool} (ha : EE K ta Γ (.bool a)) (hb : EE K tb Γ (.bool b)) : EE K (tOp rNotB ta tb) Γ (.bool (!decide (a = b))) := fun σ B e => ev_notB (ha σ B e) (hb σ B e)
theorem shares_true {n : Int} {ts : List Tie} {ps : List Int} {rows : List (List Rat)} (h : ShW n ts ps rows) : sharesB n ps (shD false rows) = true := by
  have hlen := h.S.len
  have hn2 := h.n2
  show sharesB n ps (seqD false (rows.map (rowD false))) = true
  rw [sharesB_seq, List.length_map, Bool.and_eq_true, Bool.and_eq_true, decide_eq_true_iff]
  refine ⟨⟨by omega, ?_⟩, ?_⟩
  · rw [List.all_map, List.all_eq_true]
    intro row hr
    have hro := h.S.row row hr
    show rowB ps.length (seqD false (row.map ratD)) = true
    have e2 : (row.map ratD).map toR = row := by
      rw [List.map_map, show (toR ∘ ratD) = _root_.id from funext toR_rat, List.map_id]
    have e1 : (row.map ratD).all partD = true := by
      rw [List.all_map, List.all_eq_true]
      exact fun r _ => rat_part r
    have e3 : (row.map ratD).all nonD = true := by
      rw [List.all_map, List.all_eq_true]
      intro r hr
      show decide (0 ≤ (toR (ratD r)).num) = true
      rw [toR_rat, decide_eq_true_iff]
      exact Rat.num_nonneg.mpr (hro.2.1 r hr)
    rw [rowB_seq, e1, e2, e3, List.length_map, decide_eq_true hro.1, decide_eq_true hro.2.2.1]
    rfl
  · rw [List.all_eq_true]
    intro x hx
    have hi := List.mem_zipIdx hx
    have hl : x.2 < ps.length := by omega
    have e : ps[x.2]? = some x.1 := List.mem_zipIdx_iff_getElem?.mp hx
    have hr := h.S.own x.2 x.1 e
    have : cellR (rows.map (rowD false)) x.1.toNat x.2 = 1 := by
      unfold cellR
      rw [List.getD_eq_getElem?_getD, List.getElem?_map, hr]
      show toR (((unitRow ps.length x.2).map ratD).getD x.2 .none) = 1
      rw [List.getD_eq_getElem?_getD, List.getElem?_map]
      unfold unitRow
      rw [List.getElem?_map, List.getElem?_range hl]
      show toR (ratD (if x.2 = x.2 then 1 else 0)) = 1
      rw [if_pos rfl, toR_rat]
    rw [this]
    exact decide_eq_true rfl
end Pw

/-! ## K24_law_cell_at -/
namespace Pw
open PySem L2 Evl
section
variable {P : Program} {w : World} {K : PySem.W.Frag} {mg : Str → Option Value} {base : Heap}
theorem sc_law_cell_at : FnScope nm_law_cell_at ps_law_cell_at (defScope s_law_cell_at) := ⟨rfl, rfl, rfl, by decide +kernel, rfl, by decide +kernel, by decide +kernel⟩
theorem ok_law_cell_at {f : Addr} {fd : FuncData} (T : Txt mg) (Ds : Defs K mg) (D : Dfn K mg "_law_cell_at" s_law_cell_at ps_law_cell_at f fd) : FnOk P w K mg base CX0 1 f fd ps_law_cell_at (spCellAt K) := by
  refine D.F.ok sc_law_cell_at (fun vs H Q E h => ?_) (fun cdv A outer s H vs Q E hr h => ?_)
  · obtain ⟨l, ns, k, rfl, _⟩ := h
    rfl
  · obtain ⟨l, ns, k, rfl, hs, q⟩ := h
    refine ⟨_, (pss_cons (ps_if (pt_cmpR op_lt (pv 1) (pe_callB call_len_seq (by rfl) T.m_len (by decide +kernel) (pa_cons (pv 0) pa_nil)) (nomark _))
        (pss_one (ps_ret (pe_ix ix_seq (pv 0) (pv 1) (fun _ _ => rfl))))
        pss_nil)
      (pss_one (ps_ret pe_int))), ?_⟩
    refine ⟨_, rfl, _, rfl, l, _, rfl, .inl hs, _, _, rfl, rfl, _, rfl, ite2 (fun e => ?_) (fun e => ?_)⟩
    · have hk : k < ns.length := by
        have e1 := of_decide_eq_true e
        rw [List.length_map] at e1
        omega
      have hg : (ns.map V.int)[k]? = some (.int ns[k]) := by
        rw [List.getElem?_map, List.getElem?_eq_getElem hk]
        rfl
      exact ⟨_, rfl, _, rfl, .inl ⟨l, _, _, _, rfl, rfl, hs, atI_nat hg, q _⟩⟩
    · exact q _
end
end Pw

/-! ## K24_law_box -/
namespace Pw
open PySem L2 Evl
section
variable {P : Program} {w : World} {K : PySem.W.Frag} {mg : Str → Option Value} {base : Heap}
theorem sc_law_box : FnScope nm_law_box ps_law_box (defScope s_law_box) := ⟨rfl, rfl, rfl, by decide +kernel, rfl, by decide +kernel, by decide +kernel⟩
theorem ok_law_box {f : Addr} {fd : FuncData} (T : Txt mg) (Ds : Defs K mg) (D : Dfn K mg "_law_box" s_law_box ps_law_box f fd) : FnOk P w K mg base CX0 2 f fd ps_law_box (spBox K) := by
  obtain ⟨f_law_cell_at, fd_law_cell_at, D_law_cell_at⟩ := Ds.d_law_cell_at
  have G_law_cell_at := ok_law_cell_at (P := P) (w := w) (base := base) T Ds D_law_cell_at
  refine D.F.ok sc_law_box (fun vs H Q E h => ?_) (fun cdv A outer s H vs Q E hr h => ?_)
  · obtain ⟨l, ns, k, rfl, _⟩ := h
    rfl
  · obtain ⟨l, ns, k, rfl, hs, hk, q⟩ := h
    have hr_law_cell_at := hr.mono (show 1 ≤ 1 by decide)
    refine ⟨_, (pss_cons (ps_set (i := 2) sc_law_box.nd rfl (Or.inl rfl) (pe_call G_law_cell_at hr_law_cell_at (by rfl) D_law_cell_at.g D_law_cell_at.F.kp D_law_cell_at.b .nil pass0 (pa_cons (pv 0) (pa_cons (pv 1) pa_nil))))
      (pss_one (ps_ret (pe_lst (pa_cons (pe_op op_mul (pe_callB call_abs (by rfl) T.m_abs (by decide +kernel) (pa_cons (pv 2) pa_nil)) (pe_callTy call_int1 (by rfl) T.m_int (by decide +kernel) (pa_cons (pe_cmpR op_ge (pe_callB call_abs (by rfl) T.m_abs (by decide +kernel) (pa_cons (pv 2) pa_nil)) (pe_op op_pow pe_int pe_int) (nomark _)) pa_nil))) (pa_cons (pe_op op_add (pe_op op_add (pe_op op_mod (pv 2) pe_int) (pe_op op_mul pe_int (pv 1))) pe_int) (pa_cons pe_int pa_nil))))))), ?_⟩
    refine ⟨_, rfl, _, rfl, l, ns, k, rfl, hs, fun z => ?_⟩
    refine ⟨_, rfl, _, rfl, _, rfl, _, rfl, _, _, rfl, rfl, ⟨by decide, by decide, by decide⟩, _, _, rfl, rfl, .inr ⟨_, rfl, _, _, rfl, rfl, .inr ?_, _, rfl, _, _, rfl, rfl, (by show (0 : Int) < _; decide), _, rfl, _, _, rfl, rfl, .inl ⟨by decide, by decide⟩, _, _, rfl, rfl, _, _, rfl, rfl, by show 3 ≤ sizeLine; decide, fun b hb => ?_⟩⟩
    · exact b01 _
    · refine q b _ hb (Ex.new hb) ⟨_, _, _, upd_same, ?_, ?_, ?_, by decide, by decide⟩
      · refine Int.mul_nonneg (by split <;> omega) (b0 _)
      · have := Int.emod_nonneg z (b := 2305843009213693951) (by decide)
        omega
      · have := Int.emod_lt_of_pos z (b := 2305843009213693951) (by decide)
        omega
end
end Pw

/-! ## K24_law_take -/
namespace Pw
open PySem L2 Evl
section
variable {P : Program} {w : World} {K : PySem.W.Frag} {mg : Str → Option Value} {base : Heap}
theorem sc_law_take : FnScope nm_law_take ps_law_take (defScope s_law_take) := ⟨rfl, rfl, rfl, by decide +kernel, rfl, by decide +kernel, by decide +kernel⟩
theorem ok_law_take {f : Addr} {fd : FuncData} (T : Txt mg) (Ds : Defs K mg) (D : Dfn K mg "_law_take" s_law_take ps_law_take f fd) : FnOk P w K mg base CX0 1 f fd ps_law_take spTake := by
  refine D.F.ok sc_law_take (fun vs H Q E h => ?_) (fun cdv A outer s H vs Q E hr h => ?_)
  · obtain ⟨b, m, c, rfl, _⟩ := h
    rfl
  · obtain ⟨b, m, c, rfl, ⟨x, y, z, hb, hx, hy, hy2, hz, hzc⟩, hc, hm, hm2, q⟩ := h
    refine ⟨_, (pss_cons (ps_if (pt_cmpR op_gt (pe_ix ix_seq (pv 0) pe_int (fun _ _ => rfl)) pe_int (nomark _))
        (pss_cons (ps_set (i := 2) sc_law_take.nd rfl (Or.inl rfl) (pe_op op_mod (pe_ix ix_seq (pv 0) pe_int (fun _ _ => rfl)) (pv 1)))
        (pss_cons (ps_asg (pe_op op_fdivW (pe_ix ix_seq (pv 0) pe_int (fun _ _ => rfl)) (pv 1)) (pg_sub (pv 0) pe_int set_list))
        (pss_one (ps_ret (pv 2)))))
        pss_nil)
      (pss_cons (ps_asg (pe_op op_add (pe_ix ix_seq (pv 0) pe_int (fun _ _ => rfl)) pe_int) (pg_sub (pv 0) pe_int set_list))
      (pss_cons (ps_set (i := 3) sc_law_take.nd rfl (Or.inl rfl) (pe_op op_mod (pe_op op_mul (pe_op op_add (pe_ix ix_seq (pv 0) pe_int (fun _ _ => rfl)) (pe_op op_mul pe_int (pe_ix ix_seq (pv 0) pe_int (fun _ _ => rfl)))) (pe_op op_add pe_int (pe_ix ix_seq (pv 0) pe_int (fun _ _ => rfl)))) pe_int))
      (pss_cons (ps_set (i := 4) sc_law_take.nd rfl (Or.inl rfl) (pe_op op_mod (pe_op op_mul (pe_op op_add (pv 3) (pe_ix ix_seq (pv 0) pe_int (fun _ _ => rfl))) (pe_op op_add (pe_op op_mod (pv 3) pe_int) pe_int)) pe_int))
      (pss_one (ps_ret (pe_op op_mod (pe_op op_fdiv (pe_op op_mod (pe_op op_add (pe_op op_mul (pv 4) pe_int) (pv 3)) pe_int) pe_int) (pv 1)))))))), ?_⟩
    have a0 : atI [V.int x, V.int y, V.int z] 0 = some (.int x) := rfl
    refine ⟨_, rfl, .inl ⟨b, _, _, _, rfl, rfl, sq_of hb, rfl, _, _, rfl, rfl, _, rfl, ite2 (fun e => ?_) (fun e => ?_)⟩⟩
    · have hx0 : 0 < x := of_decide_eq_true e
      refine ⟨_, rfl, .inl ⟨b, _, _, _, rfl, rfl, sq_of hb, rfl, _, rfl, _, _, rfl, rfl, by show 0 < m; omega, ?_⟩⟩
      refine ⟨_, rfl, .inl ⟨b, _, _, _, rfl, rfl, sq_of hb, rfl, _, rfl, _, _, rfl, rfl, wide_div (b := 100) (by omega) (by omega) (by decide) (by decide), ?_⟩⟩
      refine ⟨_, rfl, b, _, _, 0, rfl, rfl, hb, rfl, ?_⟩
      refine ⟨_, rfl, q _ _ (Int.emod_nonneg _ (by omega)) (Int.emod_lt_of_pos _ (by omega)) ⟨Xs.refl.put (List.mem_singleton.mpr rfl), _, _, _, upd_same, ?_, hy, hy2, hz, by omega⟩⟩
      exact Int.ediv_nonneg hx (by omega)
    · refine ⟨_, rfl, .inl ⟨b, _, _, _, rfl, rfl, sq_of hb, rfl, _, _, rfl, rfl, _, rfl, b, _, _, 2, rfl, rfl, hb, rfl, ?_⟩⟩
      have hb1 : (upd H b (.lst [.int x, .int y, .int (z + 1)])) b = some (.lst [.int x, .int y, .int (z + 1)]) := upd_same
      refine ⟨_, rfl, .inl ⟨b, _, _, _, rfl, rfl, sq_of hb1, rfl, _, rfl, .inl ⟨b, _, _, _, rfl, rfl, sq_of hb1, rfl, _, _, rfl, rfl, .inl ⟨by decide, by decide⟩, _, _, rfl, rfl, ?_⟩⟩⟩
      refine ⟨_, rfl, .inl ⟨b, _, _, _, rfl, rfl, sq_of hb1, rfl, _, _, rfl, rfl, _, _, rfl, rfl, .inr ⟨by omega, by omega⟩, _, _, rfl, rfl, (by show (0 : Int) < _; decide), ?_⟩⟩
      have h3 := Int.emod_nonneg ((y + 48271 * (z + 1)) * (39373 + (z + 1))) (b := 2147483647) (by decide)
      have h4 := Int.emod_lt_of_pos ((y + 48271 * (z + 1)) * (39373 + (z + 1))) (b := 2147483647) (by decide)
      generalize (y + 48271 * (z + 1)) * (39373 + (z + 1)) % 2147483647 = once at h3 h4 ⊢
      have h5 := Int.emod_nonneg once (b := 40009) (by decide)
      have h6 := Int.emod_lt_of_pos once (b := 40009) (by decide)
      refine ⟨_, rfl, _, rfl, .inl ⟨b, _, _, _, rfl, rfl, sq_of hb1, rfl, _, _, rfl, rfl, _, rfl, _, _, rfl, rfl, (by show (0 : Int) < _; decide), _, _, rfl, rfl, _, _, rfl, rfl, .inr ⟨by omega, by omega⟩, _, _, rfl, rfl, (by show (0 : Int) < _; decide), ?_⟩⟩
      have h7 := Int.emod_nonneg ((once + (z + 1)) * (once % 40009 + 7)) (b := 2147483629) (by decide)
      have h8 := Int.emod_lt_of_pos ((once + (z + 1)) * (once % 40009 + 7)) (b := 2147483629) (by decide)
      generalize (once + (z + 1)) * (once % 40009 + 7) % 2147483629 = twice at h7 h8 ⊢
      refine ⟨_, rfl, _, _, rfl, rfl, .inr ⟨by decide, by decide⟩, _, rfl, _, _, rfl, rfl, _, _, rfl, rfl, (by show (0 : Int) < _; decide), _, _, rfl, rfl, ⟨by decide, by decide⟩, _, rfl, _, _, rfl, rfl, by show 0 < m; omega, ?_⟩
      exact q _ _ (Int.emod_nonneg _ (by omega)) (Int.emod_lt_of_pos _ (by omega)) ⟨Xs.refl.put (List.mem_singleton.mpr rfl), _, _, _, upd_same, hx, hy, hy2, by omega, by omega⟩
end
end Pw

/-! ## K24_law_weight -/
namespace Pw
open PySem L2 Evl
section
variable {P : Program} {w : World} {K : PySem.W.Frag} {mg : Str → Option Value} {base : Heap}
theorem sc_law_weight : FnScope nm_law_weight ps_law_weight (defScope s_law_weight) := ⟨rfl, rfl, rfl, by decide +kernel, rfl, by decide +kernel, by decide +kernel⟩
theorem ok_law_weight {f : Addr} {fd : FuncData} (T : Txt mg) (Ds : Defs K mg) (D : Dfn K mg "_law_weight" s_law_weight ps_law_weight f fd) : FnOk P w K mg base CX0 2 f fd ps_law_weight spWeight := by
  obtain ⟨f_law_take, fd_law_take, D_law_take⟩ := Ds.d_law_take
  have G_law_take := ok_law_take (P := P) (w := w) (base := base) T Ds D_law_take
  refine D.F.ok sc_law_weight (fun vs H Q E h => ?_) (fun cdv A outer s H vs Q E hr h => ?_)
  · obtain ⟨b, h, c, rfl, _⟩ := h
    rfl
  · obtain ⟨b, h, c, rfl, hb, hc, h0, h4, q⟩ := h
    have hr_law_take := hr.mono (show 1 ≤ 1 by decide)
    refine ⟨_, (pss_one (ps_ret (pe_op op_add pe_int (pe_call G_law_take hr_law_take (by rfl) D_law_take.g D_law_take.F.kp D_law_take.b .nil pass0 (pa_cons (pv 0) (pa_cons (pe_ix ix_list (pe_lst (pa_cons pe_int (pa_cons pe_int (pa_cons pe_int (pa_cons (pe_ix ix_list (pe_lst (pa_cons pe_int (pa_cons pe_int (pa_cons (pe_op op_pow pe_int pe_int) pa_nil)))) (pe_call G_law_take hr_law_take (by rfl) D_law_take.g D_law_take.F.kp D_law_take.b .nil pass0 (pa_cons (pv 0) (pa_cons pe_int pa_nil))) (fun _ _ => rfl)) pa_nil))))) (pv 1) (fun _ _ => rfl)) pa_nil)))))), ?_⟩
    refine ⟨_, rfl, _, _, rfl, rfl, ⟨by decide, by decide, by decide⟩, (by show 3 ≤ sizeLine; decide), fun p hp => ?_⟩
    have np : b ≠ p := hb.ne hp
    refine ⟨_, rfl, b, 3, c, rfl, hb.upd np, by omega, by decide, by decide, fun v H1 h1 h2 hb1 => ?_⟩
    have ep : H1 p = some (.lst [.int 10, .int 100, .int (10 ^ 9)]) := hb1.at np.symm upd_same
    obtain ⟨r, hr1, hr2, hr3⟩ : ∃ r : Int, atI [V.int 10, V.int 100, V.int (10 ^ 9)] v = some (.int r) ∧ 10 ≤ r ∧ r ≤ 1000000000 := by
      have : v = 0 ∨ v = 1 ∨ v = 2 := by omega
      rcases this with rfl | rfl | rfl
      · exact ⟨10, rfl, by decide, by decide⟩
      · exact ⟨100, rfl, by decide, by decide⟩
      · exact ⟨10 ^ 9, rfl, by decide, by decide⟩
    refine ⟨p, _, _, _, rfl, rfl, sq_of ep, hr1, (by show 4 ≤ sizeLine; decide), fun p2 hp2 => ?_⟩
    have np2 : b ≠ p2 := hb1.at_.ne hp2
    obtain ⟨t, ht1, ht2, ht3⟩ : ∃ t : Int, atI [V.int 1, V.int 3, V.int 9, V.int r] h = some (.int t) ∧ 1 ≤ t ∧ t ≤ 1000000000 := by
      have : h = 0 ∨ h = 1 ∨ h = 2 ∨ h = 3 := by omega
      rcases this with rfl | rfl | rfl | rfl
      · exact ⟨1, rfl, by decide, by decide⟩
      · exact ⟨3, rfl, by decide, by decide⟩
      · exact ⟨9, rfl, by decide, by decide⟩
      · exact ⟨r, rfl, by omega, by omega⟩
    refine ⟨_, rfl, p2, _, _, _, rfl, rfl, sq_of upd_same, ht1, b, t, c + 1, rfl, hb1.at_.upd np2, by omega, by omega, by omega, fun u H2 h3 h4 hb2 => ⟨_, _, rfl, rfl, q _ _ (by omega) (by omega) ?_⟩⟩
    exact (Bx.pre (Ex.new hp) hb1).trans (Bx.pre (Ex.new hp2) hb2)
end
end Pw

/-! ## K24_law_web -/
namespace Pw
open PySem L2 Evl
def LightK (kvs : List (List Key × V)) : Prop := ∀ p ∈ kvs, ∀ w : Int, p.2 = .int w → w ≤ 1000000000
theorem LightK.put {kvs : List (List Key × V)} {k : List Key} {w : Int} (h : LightK kvs) (hw : w ≤ 1000000000) : LightK (putK kvs k (.int w)) := fun p hp x hx => by
  rcases putK_mem hp with hp | rfl
  · exact h p hp x hx
  · cases hx
    exact hw
theorem valV_in {κ : Type} [DecidableEq κ] : ∀ {kvs : List (κ × V)} {k : κ} {v : V}, valV kvs k = some v → ∃ p ∈ kvs, p.2 = v
  | [], _, _, h => by simp [valV] at h
  | p :: r, k, v, h => by
    by_cases e : p.1 = k
    · rw [valV_pos e] at h
      exact ⟨p, List.mem_cons_self, Option.some.inj h⟩
    · rw [valV_neg e] at h
      obtain ⟨q, hq, e2⟩ := valV_in h
      exact ⟨q, List.mem_cons_of_mem _ hq, e2⟩
section
variable {P : Program} {w : World} {K : PySem.W.Frag} {mg : Str → Option Value} {base : Heap}
theorem sc_law_web : FnScope nm_law_web ps_law_web (defScope s_law_web) := ⟨rfl, rfl, rfl, by decide +kernel, rfl, by decide +kernel, by decide +kernel⟩
theorem okL_law_web {f : Addr} {fd : FuncData} (T : Txt mg) (Ds : Defs K mg) (D : Dfn K mg "_law_web" s_law_web ps_law_web f fd) : FnOk P w K mg base CX0 3 f fd ps_law_web (spWebL K) := by
  obtain ⟨f_law_take, fd_law_take, D_law_take⟩ := Ds.d_law_take
  have G_law_take := ok_law_take (P := P) (w := w) (base := base) T Ds D_law_take
  obtain ⟨f_law_weight, fd_law_weight, D_law_weight⟩ := Ds.d_law_weight
  have G_law_weight := ok_law_weight (P := P) (w := w) (base := base) T Ds D_law_weight
  refine D.F.ok sc_law_web (fun vs H Q E h => ?_) (fun cdv A outer s H vs Q E hr h => ?_)
  · obtain ⟨S, b, n, c, rfl, _⟩ := h
    rfl
  · obtain ⟨S, b, n, c, rfl, hbS, hSd, hb, hc, hn, hn2, q⟩ := h
    have hr_law_take := hr.mono (show 1 ≤ 2 by decide)
    have hr_law_weight := hr.mono (show 2 ≤ 2 by decide)
    have hu := hu_of hr
    refine ⟨_, (pss_cons (ps_set (i := 2) sc_law_web.nd rfl (Or.inl rfl) (pe_call G_law_take hr_law_take (by rfl) D_law_take.g D_law_take.F.kp D_law_take.b .nil pass0 (pa_cons (pv 0) (pa_cons pe_int pa_nil))))
      (pss_cons (ps_set (i := 3) sc_law_web.nd rfl (Or.inr rfl) pe_dnewT)
      (pss_cons (ps_for PassesOwn.never rfl (pi_range2 (by rfl) T.m_range (pa_cons pe_int (pa_cons (pv 1) pa_nil))) (pg_name (i := 4) sc_law_web.nd rfl (Or.inl rfl))
        (pss_one (ps_if (pt_cmpR op_gt (pe_call G_law_take hr_law_take (by rfl) D_law_take.g D_law_take.F.kp D_law_take.b .nil pass0 (pa_cons (pv 0) (pa_cons pe_int pa_nil))) pe_int (nomark _))
          (pss_one (ps_dput hu (pv 3) (pe_tup (pa_cons (pe_call G_law_take hr_law_take (by rfl) D_law_take.g D_law_take.F.kp D_law_take.b .nil pass0 (pa_cons (pv 0) (pa_cons (pv 4) pa_nil))) (pa_cons (pv 4) pa_nil))) (pe_call G_law_weight hr_law_weight (by rfl) D_law_weight.g D_law_weight.F.kp D_law_weight.b .nil pass0 (pa_cons (pv 0) (pa_cons (pv 2) pa_nil))) rfl))
          pss_nil)))
      (pss_cons (ps_for PassesOwn.never rfl (pi_range1 (by rfl) T.m_range (pa_cons (pe_callB (call_min2 rfl) (by rfl) T.m_min (by decide +kernel) (pa_cons (pe_call G_law_take hr_law_take (by rfl) D_law_take.g D_law_take.F.kp D_law_take.b .nil pass0 (pa_cons (pv 0) (pa_cons (pe_op op_add (pe_op op_mul pe_int (pv 1)) pe_int) pa_nil))) (pa_cons (pe_op op_sub pe_int (pv 1)) pa_nil))) pa_nil)) (pg_name (i := 5) sc_law_web.nd rfl (Or.inl rfl))
        (pss_cons (ps_par (i := 6) (j := 7) (by rfl) sc_law_web.nd rfl rfl (by decide) rfl rfl (pa_cons (pe_call G_law_take hr_law_take (by rfl) D_law_take.g D_law_take.F.kp D_law_take.b .nil pass0 (pa_cons (pv 0) (pa_cons (pv 1) pa_nil))) (pa_cons (pe_call G_law_take hr_law_take (by rfl) D_law_take.g D_law_take.F.kp D_law_take.b .nil pass0 (pa_cons (pv 0) (pa_cons (pv 1) pa_nil))) pa_nil)) (by rfl))
        (pss_one (ps_if (pt_cmpR op_ne (pv 6) (pv 7) (nomark _))
          (pss_one (ps_dput hu (pv 3) (pe_tup (pa_cons (pe_callB (call_min2 rfl) (by rfl) T.m_min (by decide +kernel) (pa_cons (pv 6) (pa_cons (pv 7) pa_nil))) (pa_cons (pe_callB (call_max2 rfl) (by rfl) T.m_max (by decide +kernel) (pa_cons (pv 6) (pa_cons (pv 7) pa_nil))) pa_nil))) (pe_call G_law_weight hr_law_weight (by rfl) D_law_weight.g D_law_weight.F.kp D_law_weight.b .nil pass0 (pa_cons (pv 0) (pa_cons (pv 2) pa_nil))) rfl))
          pss_nil))))
      (pss_one (ps_ret (pe_tup (pa_cons (pv 1) (pa_cons (pe_callTy call_tuple_of (by rfl) T.m_tuple (by decide +kernel) (pa_cons (pe_lc (own := [("_law_pair", 8)]) (g := (gName 8)) (by rfl) sc_law_web.nd (pi_list (pe_callB (cr_sortedDT rfl hr.units) (by rfl) T.m_sorted (by decide +kernel) (pa_cons (pv 3) pa_nil))) (blkOk_by (own := [("_law_pair", 8)]) (N := nm_law_web) (sc := defScope s_law_web) (by decide +kernel)) (fun _ _ _ _ _ => (pg_name (i := 8) sc_law_web.nd rfl (Or.inl rfl))) (fun _ _ _ _ _ => pts_nil) (fun _ _ _ _ _ => (pe_op (r := rCatT K) op_catT (pv 8) (pe_tup (pa_cons (pe_dget hu (pv 3) (pv 8) (fun _ _ => rfl)) pa_nil))))) pa_nil)) pa_nil))))))))), ?_⟩
    -- heavy
    refine ⟨_, rfl, b, 4, c, rfl, hb, by omega, by decide, by decide, fun hv H1 hv1 hv2 hb1 => ?_⟩
    -- ties
    refine fun d hd1 => ?_
    have nbd : b ≠ d := hb1.at_.ne hd1
    have hd : H d = none := hb1.free hd1
    have hb2 : Bx b (c + 1) H (upd H1 d (.dT [])) := hb1.own hd nbd
    -- for place in range(1, many)
    refine ⟨_, rfl, 1, n, rfl, ⟨by decide, by decide, by omega, by omega⟩, for_range (lo := 1) (n := (n - 1).toNat) (fun i σ H' => ∃ (kvs : List (List Key × V)) (x4 : Option V), σ = [some (.ref b), some (.int n), some (.int hv), some (.ref d), x4, none, none, none, none] ∧ Bx b (c + 1 + 4 * i) H H' ∧ H' d = some (.dT kvs) ∧ (TieKvs n kvs ∧ LightK kvs) ∧ kvs.length ≤ i)
      ⟨[], none, rfl, hb2, upd_same, ⟨.nil, fun p h => by cases h⟩, Nat.le_refl _⟩ ?_ ?_⟩
    · rintro i σ H2 hi ⟨kvs, x4, rfl, hb2, hd2, ⟨hk, hlt⟩, hl⟩
      refine ⟨_, rfl, b, 9, _, rfl, hb2.at_, by omega, by decide, by decide, fun v H3 h1 h2 hb3 => ⟨_, _, rfl, rfl, _, rfl, ite2 (fun _ => ?_) (fun _ => ?_)⟩⟩
      · have hd3 := hb3.at nbd.symm hd2
        refine ⟨_, rfl, _, rfl, b, hv, _, rfl, hb3.at_, by omega, by omega, by omega, fun wt H4 h1 h2 hb4 => ?_⟩
        have hd4 := hb4.at nbd.symm hd3
        refine ⟨_, rfl, _, rfl, _, rfl, b, _, _, rfl, hb4.at_, by omega, by omega, by omega, fun a H5 h3 h4 hb5 => ?_⟩
        have hd5 := hb5.at nbd.symm hd4
        refine ⟨_, rfl, (by show 2 ≤ sizeLine; decide), fun p hp => ?_⟩
        refine ⟨d, _, rfl, .t (k := kPair a (1 + (i : Int))) (by rw [upd_ne (ne_of_none hd5 hp)]; exact hd5) upd_same (sz_lt (by omega)), ?_⟩
        exact ⟨putK kvs (kPair a (1 + (i : Int))) (.int wt), _, rfl, ((((hb2.trans hb3).trans hb4).trans hb5).mono (by omega)).new hp |>.own hd nbd, upd_same, ⟨hk.put (by omega) (by omega) (by omega) h1 (Int.le_refl _), hlt.put h2⟩, Nat.le_trans (length_putK _ _ _) (by omega)⟩
      · exact ⟨kvs, _, rfl, (hb2.trans hb3).mono (by omega), hb3.at nbd.symm hd2, ⟨hk, hlt⟩, by omega⟩
    · rintro σ H2 ⟨kvs, x4, rfl, hb2, hd2, ⟨hk, hlt⟩, hl⟩
      -- for turn in range(min(take(..), 91 - many))
      refine ⟨_, rfl, _, rfl, _, _, rfl, rfl, .inl ⟨by decide, by decide⟩, _, _, rfl, rfl, b, _, _, rfl, hb2.at_, by omega, by omega, by omega, fun v H3 h1 h2 hb3 => ?_⟩
      have hd3 := hb3.at nbd.symm hd2
      refine ⟨_, rfl, _, _, rfl, rfl, _, _, rfl, ?_⟩
      obtain ⟨m, hm, hm1⟩ : ∃ m : Int, (if 91 - n < v then 91 - n else v) = m ∧ 0 ≤ m ∧ m ≤ 91 - n := by
        refine ⟨_, rfl, ?_⟩
        split <;> omega
      rw [hm]
      have hb4 := (hb2.trans hb3).mono (d := c + 150) (by omega)
      refine ⟨m, rfl, by omega, by omega, for_range (lo := 0) (n := m.toNat) (fun i σ H' => ∃ (kvs : List (List Key × V)) (x4 x5 x6 x7 : Option V), σ = [some (.ref b), some (.int n), some (.int hv), some (.ref d), x4, x5, x6, x7, none] ∧ Bx b (c + 150 + 5 * i) H H' ∧ H' d = some (.dT kvs) ∧ (TieKvs n kvs ∧ LightK kvs) ∧ kvs.length ≤ (n - 1).toNat + i)
        ⟨kvs, x4, none, none, none, rfl, hb4, hd3, ⟨hk, hlt⟩, hl⟩ ?_ ?_⟩
      · rintro i σ H4 hi ⟨kvs, x4, x5, x6, x7, rfl, hb4, hd4, ⟨hk, hlt⟩, hl⟩
        refine ⟨_, rfl, _, rfl, b, n, _, rfl, hb4.at_, by omega, by omega, by omega, fun one H5 h1 h2 hb5 => ⟨_, rfl, _, rfl, b, n, _, rfl, hb5.at_, by omega, by omega, by omega, fun two H6 h3 h4 hb6 => ⟨_, _, rfl, ?_⟩⟩⟩
        have hb7 := (hb4.trans hb5).trans hb6
        have hd6 := hb6.at nbd.symm (hb5.at nbd.symm hd4)
        refine ⟨_, rfl, _, rfl, rfl, _, rfl, ite2 (fun e => ?_) (fun _ => ?_)⟩
        · have hne : one ≠ two := fun z => by
            rw [z] at e
            simp at e
          refine ⟨_, rfl, _, rfl, b, hv, _, rfl, hb7.at_, by omega, by omega, by omega, fun wt H7 h5 h6 hb8 => ?_⟩
          have hd7 := hb8.at nbd.symm hd6
          refine ⟨_, rfl, _, rfl, _, rfl, _, _, rfl, _, rfl, _, rfl, _, _, rfl, (by show 2 ≤ sizeLine; decide), fun p hp => ?_⟩
          obtain ⟨x, y, ex, ey, hx0, hxy, hyn⟩ : ∃ x y : Int, (if two < one then two else one) = x ∧ (if two > one then two else one) = y ∧ 0 ≤ x ∧ x < y ∧ y < n := by
            refine ⟨_, _, rfl, rfl, ?_⟩
            split <;> split <;> omega
          rw [ex, ey]
          refine ⟨d, _, rfl, .t (k := kPair x y) (by rw [upd_ne (ne_of_none hd7 hp)]; exact hd7) upd_same (sz_lt (by omega)), ?_⟩
          exact ⟨putK kvs (kPair x y) (.int wt), _, _, _, _, rfl, ((hb7.trans hb8).mono (by omega)).new hp |>.own hd nbd, upd_same, ⟨hk.put hx0 hxy hyn h5 (Int.le_refl _), hlt.put h6⟩, Nat.le_trans (length_putK _ _ _) (by omega)⟩
        · exact ⟨kvs, _, _, _, _, rfl, hb7.mono (by omega), hd6, ⟨hk, hlt⟩, by omega⟩
      · rintro σ H4 ⟨kvs, x4, x5, x6, x7, rfl, hb4, hd4, ⟨hk, hlt⟩, hl⟩
        have hl2 : kvs.length ≤ 100 := by omega
        obtain ⟨ks, hks, hkl, hkk⟩ := TieKvs.keys hk.1
        -- the tuple
        refine ⟨_, rfl, _, rfl, d, kvs, ks, rfl, .of hd4, hks, fun k hk' => ?_, fun bs L hbs hbt hL => ?_⟩
        · obtain ⟨a, b', rfl⟩ := hkk k hk'
          exact List.cons_ne_nil _ _
        have hbs2 : kvs.map (·.1) = (bs.map (·.2)).map (·.map Sum.inl) := by rw [hbs]; exact hks
        have hweb := web_of hn hk hbs2 hl2
        have hlight : ∀ t ∈ (bs.mergeSort leTI).map (fun b => tieOf kvs b.2), t.2.2 ≤ 1000000000 := fun t ht => by
          obtain ⟨b0, hb0, rfl⟩ := List.mem_map.mp ht
          obtain ⟨z1, z2, z3, _, z4, z5, _⟩ := hk.at hbs2 (List.mem_map.mpr ⟨b0, (sortTI_perm bs).mem_iff.mp hb0, rfl⟩)
          rw [z5]
          obtain ⟨p0, hp0, e0⟩ := valV_in z4
          exact hlt p0 hp0 z3 e0
        have nbL : b ≠ L := hb4.at_.ne hL
        have ndL : d ≠ L := ne_of_none hd4 hL
        refine ⟨L, rfl, ⟨_, sq_of upd_same⟩, fun D hD => ?_⟩
        have e4 : Ex H4 (upd H4 L (.lst ((bs.mergeSort leTI).map fun b => V.ref b.1))) := Ex.new hL
        generalize hH5 : upd H4 L (.lst ((bs.mergeSort leTI).map fun b => V.ref b.1)) = H5 at e4 hD ⊢
        have hL5 : H5 L = some (.lst ((bs.mergeSort leTI).map fun b => V.ref b.1)) := by rw [← hH5]; exact upd_same
        have hd5 : H5 d = some (.dT kvs) := e4 _ _ hd4
        have hb5 : Bx b (c + 1000) H H5 := (hb4.ext e4).mono (by omega)
        have nbD : b ≠ D := hb5.at_.ne hD
        have ndD : d ≠ D := ne_of_none hd5 hD
        refine lc_list (K := K) (a := L) (xs := (bs.mergeSort leTI).map fun b => V.ref b.1) (fun i H' => Ex H5 H' ∧ ∃ acc, H' D = some (.lst acc) ∧ DqAll K (mi H' (D :: S)) acc ((((bs.mergeSort leTI).map fun b => tieOf kvs b.2).take i).map tieD))
          ⟨Ex.new hD, [], upd_same, .nil⟩ (fun i H' _ h => sq_of (h.1 _ _ hL5)) ?_ ?_
        · rintro i x H6 hx ⟨e6, acc, hA, hdp⟩
          rw [List.getElem?_map] at hx
          obtain ⟨bb, hbb, rfl⟩ := Option.map_eq_some_iff.mp hx
          have hmem : bb ∈ bs := (sortTI_perm bs).mem_iff.mp (List.mem_of_getElem? hbb)
          obtain ⟨a1, a2, wt, ek, ev, et, _⟩ := hk.at hbs2 (List.mem_map.mpr ⟨bb, hmem, rfl⟩)
          have hbb6 : H6 bb.1 = some (.tup (bb.2.map V.int)) := e6 _ _ (e4 _ _ (hbt bb hmem))
          refine ⟨rfl, ?_⟩
          refine ⟨_, rfl, _, rfl, _, rfl, d, .int wt, rfl, .inr ⟨kvs, bb.2.map Sum.inl, bb.1, .of (e6 _ _ hd5), rfl, ?_, ev.symm⟩, (by show 1 ≤ sizeLine; decide), fun p hp => ?_⟩
          · rw [hbb6, List.map_map]
            rfl
          have hp1 : bb.1 ≠ p := ne_of_none hbb6 hp
          refine ⟨bb.1, p, _, _, rfl, rfl, st_of (by rw [upd_ne hp1]; exact hbb6), st_of upd_same, ?_, ?_, fun z => (by cases z), fun _ p2 hp2 => ?_⟩
          · rw [ek]; exact List.cons_ne_nil _ _
          · rw [ek]; show 3 ≤ sizeLine; decide
          have hA2 : H6 D = some (.lst acc) := hA
          have nD1 : D ≠ p := ne_of_none hA2 hp
          have nD2 : D ≠ p2 := ne_of_none (show (upd H6 p (.tup [.int wt])) D = some (.lst acc) by rw [upd_ne nD1]; exact hA2) hp2
          have e7 : Ex H6 (upd (upd H6 p (.tup [.int wt])) p2 (.tup (bb.2.map V.int ++ [.int wt]))) := (Ex.new hp).trans (Ex.new hp2)
          have hlen : i < bs.length := by
            have := (List.getElem?_eq_some_iff.mp hbb).1
            rw [List.length_mergeSort] at this
            exact this
          have hbl : bs.length ≤ 100 := by
            have e8 := congrArg List.length hbs
            rw [List.length_map] at e8
            omega
          have haccl : acc.length ≤ 100 := by
            have e8 := DqAll.length hdp
            rw [List.length_map, List.length_take, List.length_map, List.length_mergeSort] at e8
            omega
          have hb7 : (upd (upd H6 p (.tup [.int wt])) p2 (.tup (bb.2.map V.int ++ [.int wt]))) D = some (.lst acc) := e7 _ _ hA2
          have n2S : p2 ∉ (D :: S) := fun m => by
            rcases List.mem_cons.mp m with z | m
            · exact nD2 z.symm
            · obtain ⟨o, ho⟩ := hb5.def hSd p2 m
              rw [(Ex.new hp) _ _ (e6 _ _ ho)] at hp2
              cases hp2
          refine ⟨acc, hb7, sz_lt (by omega), (e6.trans e7).mut hD, acc ++ [.ref p2], upd_same, ?_⟩
          have e9 : Ex (mi H6 (D :: S)) (mi (upd (upd (upd H6 p (.tup [.int wt])) p2 (.tup (bb.2.map V.int ++ [.int wt]))) D (.lst (acc ++ [.ref p2]))) (D :: S)) :=
            ex_mi (ex_upd (mi_ex.trans e7) (mi_no List.mem_cons_self)) fun a m => mi_no m
          have et2 : ((bs.mergeSort leTI).map fun b => tieOf kvs b.2)[i]? = some (a1, a2, wt) := by
            rw [List.getElem?_map, hbb]
            show some (tieOf kvs bb.2) = _
            rw [et]
          rw [List.take_add_one, et2, List.map_append]
          refine DqAll.snoc (DqAll.mono e9 hdp) (.tup (xs := [.int a1, .int a2, .int wt]) ?_ (.cons (.int _) (.cons (.int _) (.cons (.int _) .nil))))
          rw [mi_at n2S, upd_ne nD2.symm, upd_same, ek]
          rfl
        · rintro H6 ⟨e6, acc, hA, hdp⟩
          have hlen2 : ((bs.mergeSort leTI).map fun b => V.ref b.1).length = ((bs.mergeSort leTI).map fun b => tieOf kvs b.2).length := by rw [List.length_map, List.length_map]
          rw [hlen2, List.take_length] at hdp
          refine ⟨D, acc, rfl, .inl ⟨sq_of hA, fun t ht => ⟨(by show 2 ≤ sizeLine; decide), fun r hr2 => ?_⟩⟩⟩
          have hb6 := hb5.ext e6
          have nbt : t ∉ S := nin_def (hb6.def hSd) ht
          have hb8 := hb6.new (o := .tup acc) ht
          have nbr : r ∉ S := nin_def (hb8.def hSd) hr2
          have hb9 := hb8.new (o := .tup [.int n, .ref t]) hr2
          refine q _ _ _ hweb hlight ?_ hb9
          have nrt : t ≠ r := fun z => by rw [← z, upd_same] at hr2; cases hr2
          refine .tup (xs := [.int n, .ref t]) (by rw [mi_at nbr]; exact upd_same) (.cons (.int _) (.cons (.tup (xs := acc) ?_ ?_) .nil))
          · rw [mi_at nbt, upd_ne nrt, upd_same]
          · refine DqAll.mono ?_ hdp
            exact (ex_miw (S := S) (fun a m => List.mem_cons_of_mem _ m)).trans (ex_mim ((Ex.new ht).trans (Ex.new hr2)))
theorem ok_law_web {f : Addr} {fd : FuncData} (T : Txt mg) (Ds : Defs K mg) (D : Dfn K mg "_law_web" s_law_web ps_law_web f fd) : FnOk P w K mg base CX0 3 f fd ps_law_web (spWeb K) :=
  (okL_law_web T Ds D).imp fun vs H Q E ⟨S, b, n, c, e, h1, h2, h3, h4, h5, h6, q⟩ => ⟨S, b, n, c, e, h1, h2, h3, h4, h5, h6, fun v H' ts g1 _ g2 g3 => q v H' ts g1 g2 g3⟩
end
end Pw

/-! ## K24_law_many -/
namespace Pw
open PySem L2 Evl
section
variable {P : Program} {w : World} {K : PySem.W.Frag} {mg : Str → Option Value} {base : Heap}
theorem sc_law_many : FnScope nm_law_many ps_law_many (defScope s_law_many) := ⟨rfl, rfl, rfl, by decide +kernel, rfl, by decide +kernel, by decide +kernel⟩
theorem ok_law_many {f : Addr} {fd : FuncData} (T : Txt mg) (Ds : Defs K mg) (D : Dfn K mg "_law_many" s_law_many ps_law_many f fd) : FnOk P w K mg base CX0 2 f fd ps_law_many spMany := by
  obtain ⟨f_law_take, fd_law_take, D_law_take⟩ := Ds.d_law_take
  have G_law_take := ok_law_take (P := P) (w := w) (base := base) T Ds D_law_take
  refine D.F.ok sc_law_many (fun vs H Q E h => ?_) (fun cdv A outer s H vs Q E hr h => ?_)
  · obtain ⟨b, l, f, m, c, rfl, _⟩ := h
    rfl
  · obtain ⟨b, l, f, m, c, rfl, hb, hc, hlf, hm, hm2, hfl, q⟩ := h
    have hr_law_take := hr.mono (show 1 ≤ 1 by decide)
    refine ⟨_, (pss_cons (ps_if (pt_cmpR op_eq (pe_call G_law_take hr_law_take (by rfl) D_law_take.g D_law_take.F.kp D_law_take.b .nil pass0 (pa_cons (pv 0) (pa_cons pe_int pa_nil))) pe_int (nomark _))
        (pss_one (ps_ret (pe_op op_add pe_int (pe_call G_law_take hr_law_take (by rfl) D_law_take.g D_law_take.F.kp D_law_take.b .nil pass0 (pa_cons (pv 0) (pa_cons (pe_op op_sub (pv 3) pe_int) pa_nil))))))
        pss_nil)
      (pss_one (ps_ret (pe_op op_add (pv 1) (pe_call G_law_take hr_law_take (by rfl) D_law_take.g D_law_take.F.kp D_law_take.b .nil pass0 (pa_cons (pv 0) (pa_cons (pe_op op_add (pe_op op_sub (pv 2) (pv 1)) pe_int) pa_nil))))))), ?_⟩
    refine ⟨_, rfl, b, 8, c, rfl, hb, by omega, by decide, by decide, fun v H1 h1 h2 hb1 => ⟨rfl, _, rfl, ite2 (fun _ => ?_) (fun _ => ?_)⟩⟩
    · refine ⟨_, rfl, _, rfl, _, _, rfl, rfl, b, _, c + 1, rfl, hb1.at_, by omega, by omega, by omega, fun v H2 h1 h2 hb2 => ⟨_, _, rfl, rfl, q _ _ (.inr ⟨by omega, by omega⟩) (hb1.trans hb2)⟩⟩
    · refine ⟨_, rfl, _, rfl, _, rfl, _, rfl, _, _, rfl, rfl, _, _, rfl, rfl, b, _, c + 1, rfl, hb1.at_, by omega, by omega, by omega, fun v H2 h1 h2 hb2 => ⟨_, _, rfl, rfl, q _ _ (.inl ⟨by omega, by omega⟩) (hb1.trans hb2)⟩⟩
end
end Pw

/-! ## K24_law_posts -/
namespace Pw
open PySem L2 Evl
section
variable {P : Program} {w : World} {K : PySem.W.Frag} {mg : Str → Option Value} {base : Heap}
theorem sc_law_posts : FnScope nm_law_posts ps_law_posts (defScope s_law_posts) := ⟨rfl, rfl, rfl, by decide +kernel, rfl, by decide +kernel, by decide +kernel⟩
theorem ok_law_posts {f : Addr} {fd : FuncData} (T : Txt mg) (Ds : Defs K mg) (D : Dfn K mg "_law_posts" s_law_posts ps_law_posts f fd) : FnOk P w K mg base CX0 2 f fd ps_law_posts (spPosts K) := by
  obtain ⟨f_law_take, fd_law_take, D_law_take⟩ := Ds.d_law_take
  have G_law_take := ok_law_take (P := P) (w := w) (base := base) T Ds D_law_take
  refine D.F.ok sc_law_posts (fun vs H Q E h => ?_) (fun cdv A0 outer s H vs Q E hr h => ?_)
  · obtain ⟨S, b, n, m, c, rfl, _⟩ := h
    rfl
  · obtain ⟨S, b, n, m, c, rfl, hbS, hSd, hb, hc, hn1, hn, hm2, hm, q⟩ := h
    have hr_law_take := hr.mono (show 1 ≤ 1 by decide)
    refine ⟨_, (pss_cons (ps_set (i := 3) sc_law_posts.nd rfl (Or.inr rfl) (pe_callTy (call_list_rng rfl) (by rfl) T.m_list (by decide +kernel) (pa_cons (pe_callTy cr_range1 (by rfl) T.m_range (by decide +kernel) (pa_cons (pv 1) pa_nil)) pa_nil)))
      (pss_cons (ps_setLc (i := 4) (own := [("_law_turn", 5)]) (g := (gName 5)) (by rfl) sc_law_posts.nd rfl rfl (sw_true rfl rfl rfl (by decide +kernel)) (pi_range1 (by rfl) T.m_range (pa_cons (pe_callB (call_min2 rfl) (by rfl) T.m_min (by decide +kernel) (pa_cons (pv 1) (pa_cons (pe_op op_add pe_int (pe_call G_law_take hr_law_take (by rfl) D_law_take.g D_law_take.F.kp D_law_take.b .nil pass0 (pa_cons (pv 0) (pa_cons (pe_op op_sub (pv 2) pe_int) pa_nil)))) pa_nil))) pa_nil)) (blkOk_by (own := [("_law_turn", 5)]) (N := nm_law_posts) (sc := defScope s_law_posts) (by decide +kernel)) (fun _ _ _ _ _ => (pg_name (i := 5) sc_law_posts.nd rfl (Or.inl rfl))) (fun _ _ _ _ _ => pts_nil) (fun _ _ _ _ _ => (pe_bmK K (by rfl) PySem.F.plainAttrs_list PySem.F.slot_list_pop PySem.F.type_list_pop mt_popAt (pv 3) (pa_cons (pe_call G_law_take hr_law_take (by rfl) D_law_take.g D_law_take.F.kp D_law_take.b .nil pass0 (pa_cons (pv 0) (pa_cons (pe_callB (r := Pw.rLenS K) call_len_seq (by rfl) T.m_len (by decide +kernel) (pa_cons (pv 3) pa_nil)) pa_nil))) pa_nil))))
      (pss_one (ps_ret (pe_callB cr_sortedI (by rfl) T.m_sorted (by decide +kernel) (pa_cons (pv 4) pa_nil)))))), ?_⟩
    have w0 : Wd S (mi H S) H := ⟨mi_ex, fun s m => mi_no m, hSd⟩
    -- some
    refine st_seq ?_
    refine ⟨_, rfl, n, rfl, fun r hr => ⟨r, 0, n, rfl, upd_same, by decide, by decide, by omega, by omega, by omega, fun A hA => ?_⟩⟩
    have e2 : Ex H (upd H r (.rng 0 n)) := Ex.new hr
    have hA0 : H A = none := fresh_back e2 hA
    have w2 := (w0.ext (Ex.new (o := .rng 0 n) hr)).own (o := .lst ((rngI 0 n.toNat).map V.int)) hA
    have el : (List.range (n - 0).toNat).map (fun (i : Nat) => V.int (0 + (i : Int))) = (rngI 0 n.toNat).map V.int := by
      unfold rngI
      rw [List.map_map, Int.sub_zero]
      rfl
    rw [el]
    have hA2 : upd (upd H r (.rng 0 n)) A (.lst ((rngI 0 n.toNat).map V.int)) A = some (.lst ((rngI 0 n.toNat).map V.int)) := upd_same
    have e3 : Ex H (upd (upd H r (.rng 0 n)) A (.lst ((rngI 0 n.toNat).map V.int))) := e2.trans (Ex.new hA)
    generalize upd (upd H r (.rng 0 n)) A (.lst ((rngI 0 n.toNat).map V.int)) = H3 at w2 hA2 e3
    have hb3 : Bx b c H H3 := (Bx.refl hb).ext e3
    have nAb : A ≠ b := fun z => by
      obtain ⟨o, ho⟩ := hb.some
      rw [← z, hA0] at ho
      cases ho
    have hbA : b ∈ A :: S := List.mem_cons_of_mem _ hbS
    have keep : ∀ {c1 c2 : Nat} {H1 H2 : Hp}, Bx b c1 H H1 → Xs [b, A] H1 H2 → BoxAt H2 b c2 → Bx b c2 H H2 := fun {c1 c2 H1 H2} h x hB => ⟨fun p o hp ho => by
      have hpA : p ≠ A := ne_of_none ho hA0
      have hpb : p ≠ b := fun z => hp (List.mem_singleton.mpr z)
      exact x p o (fun z => by
        rcases List.mem_cons.mp z with z | z
        · exact hpb z
        · exact hpA (List.mem_singleton.mp z)) (h.at hpb ho), hB⟩
    refine st_gn ?_
    try dsimp only
    -- found
    refine st_seq ?_
    refine st_set ?_
    refine lc_rng1 ?_
    refine ⟨_, rfl, _, rfl, _, rfl, _, _, rfl, rfl, b, _, c, rfl, hb3.at_, by omega, by omega, by omega, fun o H4 o0 o1 hb4 => ⟨_, _, rfl, rfl, _, _, rfl, ?_⟩⟩
    have hb4' := hb3.trans hb4
    obtain ⟨w4, eB4⟩ := w2.bx hbA hb4
    have hA4 := hb4.at nAb hA2
    obtain ⟨cnt, ec, hc1, hc2, hc3⟩ : ∃ cnt : Int, (if (2 : Int) + o < n then 2 + o else n) = cnt ∧ 1 ≤ cnt ∧ (cnt = 2 + o ∨ cnt = n) ∧ cnt ≤ 2 + o ∧ cnt ≤ n := by
      refine ⟨_, rfl, ?_⟩
      split <;> omega
    try dsimp only
    rw [ec]
    refine lc_pop (K := K) (wi := iRng1 (tCons (tC (.int cnt)) tNil)) (σ := [some (.ref b), some (.int n), some (.int m), some (.ref A), none, none]) (A := A) (rngI 0 cnt.toNat) PyData.int PyData.int (rngI 0 n.toNat) w4 hbA List.mem_cons_self nAb hb4.at_ (by rw [rngI_len]; unfold lid; omega) hA4 DqAll.ints (wk_rng1 (ea_cons ev_int ea_nil) (by omega)) (by rw [rngI_len, rngI_len]; omega) (by rw [rngI_len]; omega)
      (fun x H' xs' c' Qy Qn g1 g2 g3 g4 g5 g6 => ⟨rfl, (pop_at (K := K) (σ := [some (.ref b), some (.int n), some (.int m), some (.ref A), none, some x]) rfl rfl g1 nAb g4 g5 g2 g3 g6)⟩) fun v5 B5 H5 src rest hp1 hl1 x5 eB5 w5 hB5 ⟨xs5, hA5, hx5⟩ hd5 => ?_
    rw [rngI_len] at hl1 hB5
    have hb5 := keep hb4' x5 hB5
    have hall := hp1.nodup_iff.mpr (rngI_nd 0 n.toNat)
    have hnd := (List.nodup_append.mp hall).1
    have hok : PostsOk n (srt src) := ⟨sorted_of (srt_perm src) (srt_le src) hnd, fun p hp => by
      have := rngI_mem.mp (hp1.mem_iff.mp (List.mem_append_left rest (srt_mem.mp hp)))
      omega⟩
    have hlen : (srt src).length = cnt.toNat := by rw [srt_len, hl1]
    try dsimp only
    refine st_ret w5 (ev_srt (K := K) (ns := src) (ev_var rfl hd5.dq)) fun v8 B8 H8 e8 eB8 w8 h8 => q v8 H8 (srt src) hok (fun hn2 => by omega) (by omega) (fun z => by rw [z] at hlen; have : cnt.toNat = 0 := hlen.symm; omega) (Dq.mono (ex_mi w8.ex w8.tail.no) h8) ((hb5.ext e8).mono (by omega))
end
end Pw

/-! ## K24_law_shared -/
namespace Pw
open PySem L2 Evl
def fShared (ds : List PyData) (d : PyData) : Prop := ∃ a b : Int, ds = [.int a, .int b] ∧ 0 ≤ a ∧ 0 ≤ b ∧ d = .int (Int.gcd a b : Nat)
theorem n_law_shared {K : PySem.W.Frag} {Γ : En0} {tA : TA} {E : XK} {a b : Int} (h : EA K tA Γ [.int a, .int b]) (ha : 0 ≤ a) (hb : 0 ≤ b) : EE K (tCall (spD K fShared) [] E tA) Γ (.int (Int.gcd a b : Nat)) := n_call h ⟨a, b, rfl, ha, hb, rfl⟩

section
variable {P : Program} {w : World} {K : PySem.W.Frag} {mg : Str → Option Value} {base : Heap}
theorem sc_law_shared : FnScope nm_law_shared ps_law_shared (defScope s_law_shared) := ⟨rfl, rfl, rfl, by decide +kernel, rfl, by decide +kernel, by decide +kernel⟩
theorem ok_law_shared {f : Addr} {fd : FuncData} (T : Txt mg) (Ds : Defs K mg) (D : Dfn K mg "_law_shared" s_law_shared ps_law_shared f fd) : FnOk P w K mg base CX0 1 f fd ps_law_shared (spD K fShared) := by
  refine D.F.ok sc_law_shared (fun vs H Q E h => ?_) (fun cdv A outer s H vs Q E hr h => ?_)
  · obtain ⟨S, B, ds, d, w, hd, ⟨a, b, rfl, _⟩, _⟩ := h
    exact DqAll.length hd
  · obtain ⟨S, B, ds, d, w, hd, ⟨a, b, rfl, ha, hb0, rfl⟩, q⟩ := h
    obtain ⟨v1, v2, rfl, h1, h2⟩ := two_args hd
    refine ⟨_, (pss_cons (ps_while PassesOwn.never (pt_cmpR op_gt (pv 1) pe_int (nomark _))
        (pss_one (ps_par (i := 0) (j := 1) (by rfl) sc_law_shared.nd rfl rfl (by decide) rfl rfl (pa_cons (pv 1) (pa_cons (pe_op op_mod (pv 0) (pv 1)) pa_nil)) (by rfl))))
      (pss_one (ps_ret (pv 0)))), ?_⟩
    refine fn_pure w (sl_some (s := .d _) h1 (sl_some (s := .d _) h2 sl_nil)) rfl ?_ q
    refine s_seq (s_while (W := fun m Γ' => ∃ x y : Int, Γ' = [some (.d (.int x)), some (.d (.int y))] ∧ 0 ≤ x ∧ 0 ≤ y ∧ m = y.toNat ∧ Int.gcd x y = Int.gcd a b) ⟨_, _, _, rfl, ha, hb0, rfl, rfl⟩ (fun m Γ' hW => ?_))
    obtain ⟨x, y, rfl, hx, hy, rfl, hg⟩ := hW
    refine ⟨_, (nb_test (n_cmp (n_rd rfl rfl) n_int)), fun hb => ?_, fun hb => ?_⟩
    · replace hb := of_decide_eq_true hb
      refine s_par (n_rd rfl rfl) (n_mod (n_rd rfl rfl) (n_rd rfl rfl) ?_) ?_
      · omega
      · have h1 := Int.emod_nonneg x (show y ≠ 0 by omega)
        have h2 := Int.emod_lt_of_pos x (show 0 < y by omega)
        exact ⟨_, by omega, y, x % y, rfl, hy, h1, rfl, (gcd_step x y).trans hg⟩
    · replace hb := of_decide_eq_false hb
      have hy0 : y = 0 := by omega
      subst hy0
      refine s_ret (n_rd rfl rfl) ?_
      show PyData.int x = _
      rw [← hg, Int.gcd_zero_right]
      congr 1
      omega
end
end Pw

/-! ## K24_law_frac -/
namespace Pw
open PySem L2 Evl
def fFrac (ds : List PyData) (d : PyData) : Prop := ∃ a b : Int, ds = [.int a, .int b] ∧ 0 < b ∧ Bit b 8000 ∧ d = ratD (Rat.divInt a b)
theorem n_law_frac {K : PySem.W.Frag} {Γ : En0} {tA : TA} {E : XK} {a b : Int} (h : EA K tA Γ [.int a, .int b]) (hb : 0 < b) (hk : Bit b 8000) : EE K (tCall (spD K fFrac) [] E tA) Γ (ratD (Rat.divInt a b)) := n_call h ⟨a, b, rfl, hb, hk, rfl⟩

section
variable {P : Program} {w : World} {K : PySem.W.Frag} {mg : Str → Option Value} {base : Heap}
theorem sc_law_frac : FnScope nm_law_frac ps_law_frac (defScope s_law_frac) := ⟨rfl, rfl, rfl, by decide +kernel, rfl, by decide +kernel, by decide +kernel⟩
theorem ok_law_frac {f : Addr} {fd : FuncData} (T : Txt mg) (Ds : Defs K mg) (D : Dfn K mg "_law_frac" s_law_frac ps_law_frac f fd) : FnOk P w K mg base CX0 2 f fd ps_law_frac (spD K fFrac) := by
  obtain ⟨f_law_shared, fd_law_shared, D_law_shared⟩ := Ds.d_law_shared
  have G_law_shared := ok_law_shared (P := P) (w := w) (base := base) T Ds D_law_shared
  refine D.F.ok sc_law_frac (fun vs H Q E h => ?_) (fun cdv A outer s H vs Q E hr h => ?_)
  · obtain ⟨S, B, ds, d, w, hd, ⟨a, b, rfl, _⟩, _⟩ := h
    exact DqAll.length hd
  · obtain ⟨S, B, ds, d, w, hd, ⟨a, b, rfl, hb, hk, rfl⟩, q⟩ := h
    have hr_law_shared := hr.mono (show 1 ≤ 1 by decide)
    obtain ⟨v1, v2, rfl, h1, h2⟩ := two_args hd
    refine ⟨_, (pss_cons (ps_set (i := 2) sc_law_frac.nd rfl (Or.inl rfl) (pe_call G_law_shared hr_law_shared (by rfl) D_law_shared.g D_law_shared.F.kp D_law_shared.b .nil pass0 (pa_cons (pe_callB call_abs (by rfl) T.m_abs (by decide +kernel) (pa_cons (pv 0) pa_nil)) (pa_cons (pv 1) pa_nil))))
      (pss_one (ps_ret (pe_tup (pa_cons (pe_op op_fdivW (pv 0) (pv 2)) (pa_cons (pe_op op_fdivW (pv 1) (pv 2)) pa_nil)))))), ?_⟩
    refine fn_pure w (sl_some (s := .d _) h1 (sl_some (s := .d _) h2 (sl_none sl_nil))) rfl ?_ q
    have hg := gcd_pos (a := a) hb
    have e : ∀ i : Int, (if i < 0 then -i else i).natAbs = i.natAbs := fun i => by split <;> omega
    refine s_seq (s_asg (n_is (d' := .int (Int.gcd a b : Nat)) (n_law_shared (na_cons (n_abs (n_rd rfl rfl)) (na_cons (n_rd rfl rfl) na_nil)) ?_ ?_) (by unfold Int.gcd; rw [e])) ?_)
    · split <;> omega
    · omega
    refine s_ret (n_tup (na_cons (n_div (n_rd rfl rfl) (n_rd rfl rfl) ?_) (na_cons (n_div (n_rd rfl rfl) (n_rd rfl rfl) ?_) na_nil)) (Nat.le_of_ble_eq_true rfl)) ?_
    · exact divW' hg (gcd_bit hb hk)
    · exact divW' hg (gcd_bit hb hk)
    · exact (ratD_divInt hb).symm
end
end Pw

/-! ## K24_law_row -/
namespace Pw
open PySem L2 Evl
def fRow (ds : List PyData) (post : PyData → Prop) : Prop := ∃ k : Nat, ds = [.int (k : Int)] ∧ 1 ≤ k ∧ k ≤ 6 ∧ post = fun d => ∃ rs, RowOk k rs ∧ d = .list (rs.map ratD)
theorem at5 {w : Int} (h : 0 ≤ w ∧ w < 5) : ∃ x : Int, atI [PyData.int 2, .int 2, .int 3, .int 13, .int 9973] w = some (.int x) ∧ 1 ≤ x ∧ x ≤ 9973 := by
  rcases (show w = 0 ∨ w = 1 ∨ w = 2 ∨ w = 3 ∨ w = 4 by omega) with rfl | rfl | rfl | rfl | rfl <;> exact ⟨_, rfl, by decide, by decide⟩
theorem sum_up {m : Int} : ∀ xs : List Int, (∀ x ∈ xs, 0 ≤ x ∧ x ≤ m) → 0 ≤ xs.sum ∧ xs.sum ≤ xs.length * m
  | [], _ => by simp
  | x :: xs, h => by
    have h1 := h x List.mem_cons_self
    have h2 := sum_up xs fun y hy => h y (List.mem_cons_of_mem _ hy)
    rw [List.sum_cons, List.length_cons]
    have : ((xs.length + 1 : Nat) : Int) * m = xs.length * m + m := by rw [Int.natCast_add, Int.add_mul]; simp
    omega

section
variable {P : Program} {w : World} {K : PySem.W.Frag} {mg : Str → Option Value} {base : Heap}
theorem sc_law_row : FnScope nm_law_row ps_law_row (defScope s_law_row) := ⟨rfl, rfl, rfl, by decide +kernel, rfl, by decide +kernel, by decide +kernel⟩
theorem ok_law_row {f : Addr} {fd : FuncData} (T : Txt mg) (Ds : Defs K mg) (D : Dfn K mg "_law_row" s_law_row ps_law_row f fd) : FnOk P w K mg base CX0 3 f fd ps_law_row (spX K 100 fRow) := by
  obtain ⟨f_law_take, fd_law_take, D_law_take⟩ := Ds.d_law_take
  have G_law_take := ok_law_take (P := P) (w := w) (base := base) T Ds D_law_take
  obtain ⟨f_law_frac, fd_law_frac, D_law_frac⟩ := Ds.d_law_frac
  have G_law_frac := ok_law_frac (P := P) (w := w) (base := base) T Ds D_law_frac
  refine D.F.ok sc_law_row (fun vs H Q E h => ?_) (fun cdv A outer s H vs Q E hr h => ?_)
  · obtain ⟨S, B, b, c, us, ds, post, rfl, w, hb, hB, hc, hd, ⟨k, rfl, _⟩, q⟩ := h
    exact congrArg (· + 1) (DqAll.length hd)
  · obtain ⟨S, B, b, c, us, ds, post, rfl, w, hb, hB, hc, hd, ⟨k, rfl, hk1, hk6, rfl⟩, q⟩ := h
    have hr_law_take := hr.mono (show 1 ≤ 2 by decide)
    have hr_law_frac := hr.mono (show 2 ≤ 2 by decide)
    obtain ⟨v1, rfl, h1⟩ := one_arg hd
    refine ⟨_, (pss_cons (ps_set (i := 2) sc_law_row.nd rfl (Or.inr rfl) (pe_call G_law_take hr_law_take (by rfl) D_law_take.g D_law_take.F.kp D_law_take.b .nil pass0 (pa_cons (pv 0) (pa_cons pe_int pa_nil))))
      (pss_cons (ps_set (i := 3) sc_law_row.nd rfl (Or.inr rfl) (pe_lc (own := [("_law_k", 4)]) (g := (gName 4)) (by rfl) sc_law_row.nd (pi_range1 (by rfl) T.m_range (pa_cons (pv 1) pa_nil)) (blkOk_by (own := [("_law_k", 4)]) (N := nm_law_row) (sc := defScope s_law_row) (by decide +kernel)) (fun _ _ _ _ _ => (pg_name (i := 4) sc_law_row.nd rfl (Or.inl rfl))) (fun _ _ _ _ _ => pts_nil) (fun _ _ _ _ _ => (pe_call G_law_take hr_law_take (by rfl) D_law_take.g D_law_take.F.kp D_law_take.b .nil pass0 (pa_cons (pv 0) (pa_cons (pe_ix (r := rIxL K) ix_list (pe_lst (pa_cons pe_int (pa_cons pe_int (pa_cons pe_int (pa_cons pe_int (pa_cons pe_int pa_nil)))))) (pv 2) (fun _ _ => rfl)) pa_nil))))))
      (pss_cons (ps_if (pt_cmpR op_eq (pv 2) pe_int (nomark _))
        (pss_cons (ps_set (i := 3) sc_law_row.nd rfl (Or.inr rfl) (pe_op op_rep (pe_lst (pa_cons pe_int pa_nil)) (pv 1)))
        (pss_one (ps_asg pe_int (pg_sub (pv 3) (pe_call G_law_take hr_law_take (by rfl) D_law_take.g D_law_take.F.kp D_law_take.b .nil pass0 (pa_cons (pv 0) (pa_cons (pv 1) pa_nil))) set_list))))
        pss_nil)
      (pss_cons (ps_if (pt_cmpR op_eq (pe_callB (cr_sum rfl) (by rfl) T.m_sum (by decide +kernel) (pa_cons (pv 3) pa_nil)) pe_int (nomark _))
        (pss_one (ps_set (i := 3) sc_law_row.nd rfl (Or.inr rfl) (pe_op op_rep (pe_lst (pa_cons pe_int pa_nil)) (pv 1))))
        pss_nil)
      (pss_one (ps_ret (pe_lc (own := [("_law_one", 5)]) (g := (gName 5)) (by rfl) sc_law_row.nd (pi_list (pv 3)) (blkOk_by (own := [("_law_one", 5)]) (N := nm_law_row) (sc := defScope s_law_row) (by decide +kernel)) (fun _ _ _ _ _ => (pg_name (i := 5) sc_law_row.nd rfl (Or.inl rfl))) (fun _ _ _ _ _ => pts_nil) (fun _ _ _ _ _ => (pe_call G_law_frac hr_law_frac (by rfl) D_law_frac.g D_law_frac.F.kp D_law_frac.b .nil pass0 (pa_cons (pv 5) (pa_cons (pe_callB (r := rSum K) (cr_sum rfl) (by rfl) T.m_sum (by decide +kernel) (pa_cons (pv 3) pa_nil)) pa_nil))))))))))), ?_⟩
    refine fn_draw w hb (sl_some (s := .b b c) ⟨rfl, .inl (List.mem_singleton.mpr rfl), hb, hB⟩ (sl_some (s := .d _) h1 (sl_none (sl_none (sl_none (sl_none sl_nil)))))) rfl ?_ q
    refine s_mid (fun Γ' => ∃ w : Int, Γ' = [some (.b b (c + 2)), some (.d (.int (k : Int))), some (.d (.int w)), none, none, none] ∧ 0 ≤ w ∧ w < 5) ?_ ?_
    · refine s_asgV (i := 0) rfl (v_call (na_cons n_int na_nil) (take_ok (by decide) (by decide))) (by unfold lid; omega) fun d hd => ?_
      obtain ⟨w, rfl, h1, h2⟩ := hd
      exact ⟨w, rfl, h1, h2⟩
    rintro Γ' ⟨w, rfl, hw0, hw1⟩
    obtain ⟨m, hm, hm1, hm2⟩ := at5 ⟨hw0, hw1⟩
    refine s_mid (fun Γ' => ∃ xs : List Int, Γ' = [some (.b b (c + 2 + k * 2)), some (.d (.int (k : Int))), some (.d (.int w)), some (.d (.list (xs.map .int))), none, none] ∧ xs.length = k ∧ ∀ x ∈ xs, 0 ≤ x ∧ x ≤ 9973) ?_ ?_
    · refine s_asgV (i := 0) (k := k * 2) rfl (EV.imp (R' := fun d => ∃ ys : List PyData, (∃ xs : List Int, ys = xs.map .int ∧ xs.length = k ∧ ∀ x ∈ xs, 0 ≤ x ∧ x ≤ 9973) ∧ d = .list ys) (EV.more (v_lc (k1 := 0) (k2 := 2) (rngI 0 k) PyData.int (fun j ys => ∃ xs : List Int, ys = xs.map .int ∧ xs.length = j ∧ ∀ x ∈ xs, 0 ≤ x ∧ x ≤ 9973) (nw_rng1 (j := (k : Int)) (na_cons (n_rd rfl rfl) na_nil) (by omega)) (by rw [rngI_len]; omega) ⟨[], rfl, rfl, fun x h => by cases h⟩ (fun j ys ⟨xs, h1, h2, _⟩ => by rw [h1, List.length_map]; omega) (by decide) (fun a ha => gn_1 (by decide)) (fun a ha => rfl) (fun a ha => vb_pure nb_yes) (fun a ha _ => v_call (na_cons (n_ixL (n_lst (na_cons n_int (na_cons n_int (na_cons n_int (na_cons n_int (na_cons n_int na_nil))))) (Nat.le_of_ble_eq_true rfl)) (n_rd rfl rfl) hm) na_nil) (take_ok hm1 (by omega))) (fun j a ys ha ⟨xs, h1, h2, h3⟩ => ⟨fun d _ ⟨v, hv, g1, g2⟩ => ⟨xs ++ [v], by rw [h1, hv, List.map_append]; rfl, by rw [List.length_append, h2]; rfl, fun x hx => by
        rcases List.mem_append.mp hx with hx | hx
        · exact h3 x hx
        · rw [List.mem_singleton.mp hx]
          omega⟩, fun z => by cases z⟩)) (by rw [rngI_len]; omega)) (fun d ⟨ys, ⟨xs, h1, h2, h3⟩, hd⟩ => ⟨ys, ⟨xs, h1, by rw [rngI_len] at h2; exact h2, h3⟩, hd⟩)) (by unfold lid; omega) fun d hd => ?_
      obtain ⟨ys, ⟨xs, rfl, h2, h3⟩, rfl⟩ := hd
      exact ⟨xs, rfl, h2, h3⟩
    rintro Γ' ⟨xs, rfl, hxl, hx⟩
    refine s_mid (fun Γ' => ∃ (c' : Nat) (xs : List Int), Γ' = [some (.b b c'), some (.d (.int (k : Int))), some (.d (.int w)), some (.d (.list (xs.map .int))), none, none] ∧ xs.length = k ∧ (∀ x ∈ xs, 0 ≤ x ∧ x ≤ 9973) ∧ c' ≤ c + 50) ?_ ?_
    · refine s_if (nb_test (n_eqI (n_rd rfl rfl) n_int)) (fun h => s_giveEnd ?_) (fun h => s_next ⟨_, xs, rfl, hxl, hx, by omega⟩)
      refine s_seq (s_rep n_int (n_rd rfl rfl) (by omega) ?_)
      refine s_setV (j := 0) (i := 3) rfl rfl (by decide) n_int rfl (v_call (na_cons (n_rd rfl rfl) na_nil) (take_ok (by omega) (by omega))) (by unfold lid; omega) (fun q hq => ?_) fun q hq => ?_
      · rw [List.length_replicate]
        have := hq
        omega
      · refine ⟨3, _, rfl, c + 2 + k * 2 + (1 + 1), (List.replicate k (0 : Int)).set q.toNat 1, ?_, ?_, ?_, ?_⟩
        · have e : ((List.replicate ((k : Int)).toNat (PyData.int 0)).set q.toNat (.int 1)) = ((List.replicate k (0 : Int)).set q.toNat 1).map .int := by
            rw [List.map_set, List.map_replicate, Int.toNat_natCast]
          rw [e]
          rfl
        · rw [List.length_set, List.length_replicate]
        · intro x hx
          rcases List.mem_or_eq_of_mem_set hx with hx | rfl
          · rw [(List.mem_replicate.mp hx).2]
            decide
          · decide
        · omega
    rintro Γ' ⟨c', xs, rfl, hxl, hx, hc'⟩
    refine s_mid (fun Γ' => ∃ (c' : Nat) (xs : List Int), Γ' = [some (.b b c'), some (.d (.int (k : Int))), some (.d (.int w)), some (.d (.list (xs.map .int))), none, none] ∧ xs.length = k ∧ (∀ x ∈ xs, 0 ≤ x ∧ x ≤ 9973) ∧ c' ≤ c + 50 ∧ 0 < xs.sum) ?_ ?_
    · refine s_if (nb_test (n_eqI (n_sum (n_rd rfl rfl)) n_int)) (fun h => s_giveEnd ?_) (fun h => s_next ⟨_, xs, rfl, hxl, hx, hc', ?_⟩)
      · refine s_rep n_int (n_rd rfl rfl) (by omega) ⟨3, _, rfl, c', List.replicate k 1, ?_, List.length_replicate, ?_, hc', ?_⟩
        · rw [Int.toNat_natCast, List.map_replicate]
          rfl
        · intro x hx
          rw [(List.mem_replicate.mp hx).2]
          decide
        · have : ∀ m : Nat, (List.replicate m (1 : Int)).sum = m := fun m => by
            induction m with
            | zero => rfl
            | succ m ih => rw [List.replicate_succ, List.sum_cons, ih]; omega
          rw [this]
          omega
      · have := of_decide_eq_false h
        have := (sum_up xs hx).1
        omega
    rintro Γ' ⟨c', xs, rfl, hxl, hx, hc', hs⟩
    have hsm := (sum_up xs hx).2
    rw [hxl] at hsm
    have hk' : (k : Int) * 9973 ≤ 6 * 9973 := by omega
    refine s_ret (n_lc1 _ _ _ (nw_list (n_rd rfl rfl)) ?_ fun z1 hz1 => nt (gn_1 (by decide)) nb_yes fun _ => (n_law_frac (na_cons (n_rd rfl rfl) (na_cons (n_sum (n_rd rfl rfl)) na_nil)) ?_ ?_)) ⟨⟨_, row_ok hxl (fun x h => (hx x h).1) hs (by omega), ?_⟩, c', rfl, by omega⟩
    · rw [hxl]
      omega
    · exact hs
    · exact (Bit.of (k := 20) (by omega) (by omega)).mono (by decide)
    · rw [List.map_map]
      rfl
end
end Pw

/-! ## K24_law_shares -/
namespace Pw
open PySem L2 Evl
def fShares (ds : List PyData) (post : PyData → Prop) : Prop := ∃ n ts ps, ds = [webD n ts, .list (List.map PyData.int ps)] ∧ 1 ≤ n ∧ n ≤ 30 ∧ PostsOk n ps ∧ ps ≠ [] ∧ ps.length ≤ 6 ∧ post = fun d => ∃ rows, SharesOk n ps rows ∧ d = shD false rows
theorem unit_ok {k l : Nat} (hl : l < k) : RowOk k (unitRow k l) := by
  have hm : ∀ r ∈ unitRow k l, r = 1 ∨ r = 0 := fun r hr => by
    obtain ⟨i, _, rfl⟩ := List.mem_map.mp hr
    by_cases e : i = l
    · rw [if_pos e]; exact .inl rfl
    · rw [if_neg e]; exact .inr rfl
  refine ⟨by unfold unitRow; rw [List.length_map, List.length_range], fun r hr => ?_, ?_, 1, by decide, by decide, fun r hr => ?_⟩
  · rcases hm r hr with rfl | rfl <;> decide
  · have key : ∀ m, sumR ((List.range m).map fun i => if i = l then (1 : Rat) else 0) = if l < m then 1 else 0 := fun m => by
      induction m with
      | zero => rfl
      | succ m ih =>
        rw [List.range_succ, List.map_append, sumR_app, ih]
        show _ + ((if m = l then (1 : Rat) else 0) + 0) = _
        by_cases a : m = l
        · rw [if_neg (by omega), if_pos a, if_pos (by omega)]
          grind
        · by_cases b : l < m
          · rw [if_pos b, if_neg a, if_pos (by omega)]
            grind
          · rw [if_neg b, if_neg a, if_neg (by omega)]
            grind
    unfold unitRow
    rw [key, if_pos hl]
  · rcases hm r hr with rfl | rfl
    · exact FB.one
    · exact FB.zero.mono (Nat.dvd_refl _) (by decide)

section
variable {P : Program} {w : World} {K : PySem.W.Frag} {mg : Str → Option Value} {base : Heap}
theorem sc_law_shares : FnScope nm_law_shares ps_law_shares (defScope s_law_shares) := ⟨rfl, rfl, rfl, by decide +kernel, rfl, by decide +kernel, by decide +kernel⟩
theorem ok_law_shares {f : Addr} {fd : FuncData} (T : Txt mg) (Ds : Defs K mg) (D : Dfn K mg "_law_shares" s_law_shares ps_law_shares f fd) : FnOk P w K mg base CX0 4 f fd ps_law_shares (spX K 5000 fShares) := by
  obtain ⟨f_law_take, fd_law_take, D_law_take⟩ := Ds.d_law_take
  have G_law_take := ok_law_take (P := P) (w := w) (base := base) T Ds D_law_take
  obtain ⟨f_law_row, fd_law_row, D_law_row⟩ := Ds.d_law_row
  have G_law_row := ok_law_row (P := P) (w := w) (base := base) T Ds D_law_row
  refine D.F.ok sc_law_shares (fun vs H Q E h => ?_) (fun cdv A outer s H vs Q E hr h => ?_)
  · obtain ⟨S, B, b, c, us, ds, post, rfl, w, hb, hB, hc, hd, ⟨n, ts, ps, rfl, _⟩, q⟩ := h
    exact congrArg (· + 1) (DqAll.length hd)
  · obtain ⟨S, B, b, c, us, ds, post, rfl, w, hb, hB, hc, hd, ⟨n, ts, ps, rfl, hn1, hn, hP, hp, hp6, rfl⟩, q⟩ := h
    have hr_law_take := hr.mono (show 1 ≤ 3 by decide)
    have hr_law_row := hr.mono (show 3 ≤ 3 by decide)
    obtain ⟨v1, v2, rfl, h1, h2⟩ := two_args hd
    refine ⟨_, (pss_cons (ps_set (i := 3) sc_law_shares.nd rfl (Or.inl rfl) (pe_lst pa_nil))
      (pss_cons (ps_for PassesOwn.never rfl (pi_range1 (by rfl) T.m_range (pa_cons (pe_ix ix_tup (pv 1) pe_int (fun _ _ => rfl)) pa_nil)) (pg_name (i := 4) sc_law_shares.nd rfl (Or.inr rfl))
        (pss_cons (ps_set (i := 5) sc_law_shares.nd rfl (Or.inl rfl) (pe_call G_law_row hr_law_row (by rfl) D_law_row.g D_law_row.F.kp D_law_row.b .nil pass0 (pa_cons (pv 0) (pa_cons (pe_callB call_len_seq (by rfl) T.m_len (by decide +kernel) (pa_cons (pv 2) pa_nil)) pa_nil))))
        (pss_cons (ps_if (PW.pt (pw_and (pt_cmpR op_gt (pv 4) pe_int (nomark _)) (pw_and1 (pt_cmpR op_eq (pe_call G_law_take hr_law_take (by rfl) D_law_take.g D_law_take.F.kp D_law_take.b .nil pass0 (pa_cons (pv 0) (pa_cons pe_int pa_nil))) pe_int (nomark _)))))
          (pss_one (ps_set (i := 5) sc_law_shares.nd rfl (Or.inl rfl) (pe_callTy call_list_of (by rfl) T.m_list (by decide +kernel) (pa_cons (pe_ix ix_list (pv 3) (pe_call G_law_take hr_law_take (by rfl) D_law_take.g D_law_take.F.kp D_law_take.b .nil pass0 (pa_cons (pv 0) (pa_cons (pv 4) pa_nil))) (fun _ _ => rfl)) pa_nil))))
          pss_nil)
        (pss_cons (ps_if (pt_cmpR op_in_seq (pv 4) (pv 2) (by rfl))
          (pss_one (ps_setLc (i := 5) (own := [("_law_post", 6)]) (g := (gName 6)) (by rfl) sc_law_shares.nd rfl rfl (sw_true rfl rfl rfl (by decide +kernel)) (pi_list (pv 2)) (blkOk_by (own := [("_law_post", 6)]) (N := nm_law_shares) (sc := defScope s_law_shares) (by decide +kernel)) (fun _ _ _ _ _ => (pg_name (i := 6) sc_law_shares.nd rfl (Or.inl rfl))) (fun _ _ _ _ _ => pts_nil) (fun _ _ _ _ _ => (pe_tup (pa_cons (pe_callTy (T := "int") call_int1 (by rfl) T.m_int (by decide +kernel) (pa_cons (pe_cmpR op_eq (pv 6) (pv 4) (nomark _)) pa_nil)) (pa_cons pe_int pa_nil))))))
          pss_nil)
        (pss_one (ps_expr (pe_bm PySem.F.plainAttrs_list PySem.F.slot_list_append PySem.F.type_list_append mt_append (pv 3) (pa_cons (pv 5) pa_nil))))))))
      (pss_one (ps_ret (pv 3))))), ?_⟩
    refine fn_draw w hb (sl_some (s := .b b c) ⟨rfl, .inl (List.mem_singleton.mpr rfl), hb, hB⟩ (sl_some (s := .d _) h1 (sl_some (s := .d _) h2 (sl_none (sl_none (sl_none (sl_none sl_nil))))))) rfl ?_ q
    have hlen : ((ps.map PyData.int).length : Int) = (ps.length : Nat) := by rw [List.length_map]
    have hpp : 0 < ps.length := List.length_pos_iff.mpr hp
    have hnd : ps.Nodup := List.nodup_iff_pairwise_ne.mpr (hP.rise.imp fun h e => by omega)
    have inj : ∀ {j l : Nat} (hj : j < ps.length) (hl : l < ps.length), ps[j] = ps[l] → j = l := fun {j l} hj hl e => by
      have h := List.pairwise_iff_getElem.mp hP.rise
      rcases Nat.lt_trichotomy j l with x | x | x
      · have := h j l hj hl x; omega
      · exact x
      · have := h l j hl hj x; omega
    refine s_seq (s_new na_nil (by decide) ?_)
    refine s_seq (s_for (rngI 0 n.toNat) PyData.int (nw_rng1 (na_cons (n_ixT (d := .int n) (n_rd rfl rfl) n_int rfl) na_nil) (by omega)) (fun i Γ' => ∃ (c' : Nat) (rows : List (List Rat)) (x y z : Option Sl), Γ' = [some (.b b c'), some (.d (webD n ts)), some (.d (.list (ps.map .int))), some (.o .lst (rows.map (rowD false))), x, y, z] ∧ c' ≤ c + i * 120 ∧ rows.length = i ∧ (∀ row ∈ rows, RowOk ps.length row) ∧ ∀ (l : Nat) p, ps[l]? = some p → p < (i : Int) → rows[p.toNat]? = some (unitRow ps.length l)) ⟨c, [], none, none, none, rfl, by omega, rfl, (fun row h => by cases h), fun l p h1 h2 => absurd h2 (by have := hP.rng p (List.mem_of_getElem? h1); omega)⟩ (fun i a Γ' ha hI => ?_) (fun Γ' hI => ?_))
    · obtain ⟨c', rows, x, y, z, rfl, hc', hrl, hrow, hown⟩ := hI
      have hi : i < n.toNat := by
        have := (List.getElem?_eq_some_iff.mp ha).1
        rw [rngI_len] at this
        exact this
      have ha2 : a = (i : Int) := by
        rw [rngI_get hi] at ha
        have := Option.some.inj ha
        omega
      subst ha2
      refine ⟨_, gt_1, ?_⟩
      have hroom : c + i * 120 + 200 ≤ c + 5000 := by omega
      refine s_mid (fun Γ' => ∃ (c2 : Nat) (rs : List Rat), Γ' = [some (.b b c2), some (.d (webD n ts)), some (.d (.list (ps.map .int))), some (.o .lst (rows.map (rowD false))), some (.d (.int (i : Int))), some (.d (rowD false rs)), z] ∧ c2 ≤ c' + 101 ∧ RowOk ps.length rs) ?_ ?_
      · refine s_asgV (i := 0) rfl (v_call (na_cons (n_len (t := false) (n_rd rfl rfl)) na_nil) (spX_ok ⟨(ps.map PyData.int).length, rfl, by rw [List.length_map]; omega, by rw [List.length_map]; omega, rfl⟩)) (by unfold lid; omega) fun d hd => ?_
        obtain ⟨rs, h1, rfl⟩ := hd
        rw [List.length_map] at h1
        exact ⟨_, rs, rfl, by omega, h1⟩
      rintro Γ' ⟨c2, rs, rfl, hc2, hrs⟩
      refine s_mid (fun Γ' => ∃ (c2 : Nat) (rs : List Rat), Γ' = [some (.b b c2), some (.d (webD n ts)), some (.d (.list (ps.map .int))), some (.o .lst (rows.map (rowD false))), some (.d (.int (i : Int))), some (.d (rowD false rs)), z] ∧ c2 ≤ c' + 110 ∧ RowOk ps.length rs) ?_ ?_
      · refine s_ifV (i := 0) (k := 1 + 1 + 0) rfl (vb_and rfl (nb_test (n_cmp (n_rd rfl rfl) n_int)) fun _ => vb_test (R := fun d => ∃ x, d = .bool x) (v_op (v_call (na_cons n_int na_nil) (take_ok (by decide) (by decide))) (v_pure n_int) fun d1 d2 h1 h2 => ?_) fun d hd => hd) (by unfold lid; omega) (fun hb => ?_) fun hb => s_next ⟨_, rs, rfl, by omega, hrs⟩
        · obtain ⟨v, rfl, _, _⟩ := h1
          subst h2
          exact ⟨_, ⟨_, rfl⟩, fun σ B x y hx hy => ev_eqI (ev_c hx) (ev_c hy)⟩
        · have hi0 := of_decide_eq_true (hb rfl).1
          refine s_asgX (R := fun d Γ' => ∃ (c3 : Nat) (rs3 : List Rat), Γ' = [some (.b b c3), some (.d (webD n ts)), some (.d (.list (ps.map .int))), some (.o .lst (rows.map (rowD false))), some (.d (.int (i : Int))), some (.d (rowD false rs)), z] ∧ c3 ≤ c' + 110 ∧ d = rowD false rs3 ∧ RowOk ps.length rs3) (x_cb1 (r := rListS K) (x_ixO (x_of (i := 0) rfl (by unfold lid; omega) (v_call (na_cons (n_rd rfl rfl) na_nil) (take_ok (by omega) (by omega)))) (fun d Γ2 ⟨⟨v, hv, h1, h2⟩, hΓ⟩ => ⟨v, rows.map (rowD false), hv, by rw [hΓ]; rfl, h1, by rw [List.length_map]; omega⟩) ⟨_, rfl⟩) fun d Γ2 ⟨q, ds, ⟨⟨v, hv, h1, h2⟩, hΓ⟩, hds, hd⟩ => ?_) fun d Γ2 ⟨c3, rs, hΓ, h1, h2, h3⟩ => ⟨c3, rs, by rw [hΓ, h2]; rfl, h1, h3⟩
          rw [hΓ] at hds
          cases hds
          rw [List.getElem?_map] at hd
          obtain ⟨rs2, g1, rfl⟩ := Option.map_eq_some_iff.mp hd
          refine ⟨_, ⟨c2 + (1 + 1) + (1 + 1), rs2, ?_, by omega, rfl, hrow rs2 (List.mem_of_getElem? g1)⟩, fun σ B x hx => ev_list (t := false) (ev_c hx)⟩
          rw [hΓ]
          rfl
      rintro Γ' ⟨c3, rs, rfl, hc3, hrs⟩
      refine s_mid (fun Γ' => ∃ (rs : List Rat), Γ' = [some (.b b c3), some (.d (webD n ts)), some (.d (.list (ps.map .int))), some (.o .lst (rows.map (rowD false))), some (.d (.int (i : Int))), some (.d (rowD false rs)), z] ∧ RowOk ps.length rs ∧ ∀ l : Nat, ps[l]? = some (i : Int) → rs = unitRow ps.length l) ?_ ?_
      · refine s_if (nb_test (n_in (neg := false) (t := false) (ns := ps) (n_rd rfl rfl) (n_rd rfl rfl))) (fun h => ?_) (fun h => s_next ⟨rs, rfl, hrs, fun l hl => absurd (List.mem_of_getElem? hl) (of_decide_eq_false h)⟩)
        obtain ⟨l, hl, el⟩ := List.getElem_of_mem (of_decide_eq_true h)
        have el2 : ps[l]? = some (i : Int) := by rw [List.getElem?_eq_getElem hl, el]
        refine s_asg (n_is (d' := rowD false (unitRow ps.length l)) (n_lc1 ps PyData.int (fun q => .tuple [.int (if decide (q = (i : Int)) = true then 1 else 0), .int 1]) (nw_list (n_rd rfl rfl)) (by omega) (fun q hq => nt (gn_1 (by decide)) nb_yes fun _ => n_tup (na_cons (n_intB (n_eqI (n_rd rfl rfl) (n_rd rfl rfl))) (na_cons n_int na_nil)) (Nat.le_of_ble_eq_true rfl))) ?_) ⟨_, rfl, unit_ok hl, fun l2 h2 => ?_⟩
        · show PyData.list _ = PyData.list _
          congr 1
          refine List.ext_getElem? fun j => ?_
          rw [List.getElem?_map, List.getElem?_map]
          unfold unitRow
          rw [List.getElem?_map]
          by_cases hj : j < ps.length
          · rw [List.getElem?_eq_getElem hj, List.getElem?_range hj]
            by_cases e : j = l
            · subst e
              show some (PyData.tuple [.int (if decide (ps[j] = (i : Int)) = true then 1 else 0), .int 1]) = some (ratD (if j = j then 1 else 0))
              rw [el, decide_eq_true rfl, if_pos rfl, if_pos rfl]
              rfl
            · have hne : ps[j] ≠ (i : Int) := fun z => e (inj hj hl (z.trans el.symm))
              show some (PyData.tuple [.int (if decide (ps[j] = (i : Int)) = true then 1 else 0), .int 1]) = some (ratD (if j = l then 1 else 0))
              rw [decide_eq_false hne, if_neg e]
              rfl
          · rw [List.getElem?_eq_none (by omega), List.getElem?_eq_none (by rw [List.length_range]; omega)]
            rfl
        · obtain ⟨hl2, e2⟩ := List.getElem?_eq_some_iff.mp h2
          rw [inj hl hl2 (el.trans e2.symm)]
      rintro Γ' ⟨rs, rfl, hrs, hru⟩
      refine s_app (i := 3) rfl (by rw [List.length_map]; omega) (n_rd rfl rfl) ⟨c3, rows ++ [rs], _, _, _, by rw [List.map_append]; rfl, by omega, by rw [List.length_append, hrl]; rfl, fun row hr => ?_, fun l p h1 h2 => ?_⟩
      · rcases List.mem_append.mp hr with hr | hr
        · exact hrow row hr
        · rw [List.mem_singleton.mp hr]; exact hrs
      · have hp0 := (hP.rng p (List.mem_of_getElem? h1)).1
        by_cases e : p < (i : Int)
        · rw [List.getElem?_append_left (by omega)]
          exact hown l p h1 e
        · have : p = (i : Int) := by omega
          subst this
          rw [Int.toNat_natCast, List.getElem?_append_right (by omega), hrl, Nat.sub_self, hru l h1]
          rfl
    · obtain ⟨c', rows, x, y, z, rfl, hc', hrl, hrow, hown⟩ := hI
      rw [rngI_len] at hc' hrl
      refine s_give (i := 3) rfl (s_ret (n_rd rfl rfl) ⟨⟨rows, ⟨hrl, hrow, fun l p h => hown l p h ?_⟩, rfl⟩, c', rfl, by omega⟩)
      have := hP.rng p (List.mem_of_getElem? h)
      rw [rngI_len]
      omega
end
end Pw

/-! ## K24_law_world -/
namespace Pw
open PySem L2 Evl
def fWorld (ds : List PyData) (post : PyData → Prop) : Prop := ds = [] ∧ post = fun d => ∃ n ts ps rows, ShW n ts ps rows ∧ d = .tuple [webD n ts, .list (List.map PyData.int ps), shD false rows]
theorem world_ok {K : PySem.W.Frag} : DrawOk K (spX K 7000 fWorld) 7000 [] fun d => ∃ n ts ps rows, ShW n ts ps rows ∧ d = .tuple [webD n ts, .list (List.map PyData.int ps), shD false rows] := spX_ok ⟨rfl, rfl⟩

section
variable {P : Program} {w : World} {K : PySem.W.Frag} {mg : Str → Option Value} {base : Heap}
theorem sc_law_world : FnScope nm_law_world ps_law_world (defScope s_law_world) := ⟨rfl, rfl, rfl, by decide +kernel, rfl, by decide +kernel, by decide +kernel⟩
theorem ok_law_world {f : Addr} {fd : FuncData} (T : Txt mg) (Ds : Defs K mg) (D : Dfn K mg "_law_world" s_law_world ps_law_world f fd) : FnOk P w K mg base CX0 5 f fd ps_law_world (spX K 7000 fWorld) := by
  obtain ⟨f_law_web, fd_law_web, D_law_web⟩ := Ds.d_law_web
  have G_law_web := ok_law_web (P := P) (w := w) (base := base) T Ds D_law_web
  obtain ⟨f_law_many, fd_law_many, D_law_many⟩ := Ds.d_law_many
  have G_law_many := ok_law_many (P := P) (w := w) (base := base) T Ds D_law_many
  obtain ⟨f_law_posts, fd_law_posts, D_law_posts⟩ := Ds.d_law_posts
  have G_law_posts := ok_law_posts (P := P) (w := w) (base := base) T Ds D_law_posts
  obtain ⟨f_law_shares, fd_law_shares, D_law_shares⟩ := Ds.d_law_shares
  have G_law_shares := ok_law_shares (P := P) (w := w) (base := base) T Ds D_law_shares
  have G_law_web := okL_law_web (P := P) (w := w) (base := base) T Ds D_law_web
  refine D.F.ok sc_law_world (fun vs H Q E h => ?_) (fun cdv A outer s H vs Q E hr h => ?_)
  · obtain ⟨S, B, b, c, us, ds, post, rfl, w, hb, hB, hc, hd, ⟨rfl, _⟩, q⟩ := h
    exact congrArg (· + 1) (DqAll.length hd)
  · obtain ⟨S, B, b, c, us, ds, post, rfl, w, hb, hB, hc, hd, ⟨rfl, rfl⟩, q⟩ := h
    have hr_law_web := hr.mono (show 3 ≤ 4 by decide)
    have hr_law_many := hr.mono (show 2 ≤ 4 by decide)
    have hr_law_posts := hr.mono (show 2 ≤ 4 by decide)
    have hr_law_shares := hr.mono (show 4 ≤ 4 by decide)
    cases hd
    refine ⟨_, (pss_cons (ps_set (i := 1) sc_law_world.nd rfl (Or.inl rfl) (pe_call G_law_web hr_law_web (by rfl) D_law_web.g D_law_web.F.kp D_law_web.b .nil pass0 (pa_cons (pv 0) (pa_cons (pe_call G_law_many hr_law_many (by rfl) D_law_many.g D_law_many.F.kp D_law_many.b .nil pass0 (pa_cons (pv 0) (pa_cons pe_int (pa_cons pe_int (pa_cons pe_int pa_nil))))) pa_nil))))
      (pss_cons (ps_set (i := 2) sc_law_world.nd rfl (Or.inl rfl) (pe_call G_law_posts hr_law_posts (by rfl) D_law_posts.g D_law_posts.F.kp D_law_posts.b .nil pass0 (pa_cons (pv 0) (pa_cons (pe_ix ix_tup (pv 1) pe_int (fun _ _ => rfl)) (pa_cons pe_int pa_nil)))))
      (pss_one (ps_ret (pe_tup (pa_cons (pv 1) (pa_cons (pv 2) (pa_cons (pe_call G_law_shares hr_law_shares (by rfl) D_law_shares.g D_law_shares.F.kp D_law_shares.b .nil pass0 (pa_cons (pv 0) (pa_cons (pv 1) (pa_cons (pv 2) pa_nil)))) pa_nil)))))))), ?_⟩
    refine fn_draw w hb (sl_some (s := .b b c) ⟨rfl, .inl (List.mem_singleton.mpr rfl), hb, hB⟩ (sl_none (sl_none sl_nil))) rfl ?_ q
    refine s_seq (s_asgV (i := 0) (k := 2 + 1 + 1000 + 1) (R := fun d => ∃ n ts, d = webD n ts ∧ 2 ≤ n ∧ n ≤ 30 ∧ WebOk n ts ∧ ∀ t ∈ ts, t.2.2 ≤ 1000000000) rfl (v_call1 (k := 1000) (v_call (na_cons n_int (na_cons n_int (na_cons n_int na_nil))) (many_ok (by decide) (by decide) (by decide) (by decide))) fun d ⟨v, hv, hb⟩ => ?_) (by unfold lid; omega) fun d hd => ?_)
    · subst hv
      exact (webL_ok (by omega) (by omega)).imp fun d ⟨ts, h1, h2, h3⟩ => ⟨v, ts, h1, by omega, by omega, h2, h3⟩
    obtain ⟨n, ts, rfl, hn2, hn30, hW, hw⟩ := hd
    refine s_seq (s_asgV (i := 0) rfl (v_call (na_cons (n_ixT (n_rd rfl rfl) n_int rfl) (na_cons n_int na_nil)) (posts_ok (n := n) (by omega) (by omega) (by decide) (by decide))) (by unfold lid; omega) fun d hd => ?_)
    obtain ⟨ps, rfl, hP, hp2, hp6, hne⟩ := hd
    refine s_retV (i := 0) rfl (v_tup (av_cons (v_pure (n_rd rfl rfl)) (av_cons (v_pure (n_rd rfl rfl)) (av_cons (v_call (na_cons (n_rd rfl rfl) (na_cons (n_rd rfl rfl) na_nil)) (spX_ok ⟨n, ts, ps, rfl, by omega, by omega, hP, hne, by omega, rfl⟩)) av_nil))) fun ds h => ?_) (by unfold lid; omega) fun d hd => ?_
    · obtain ⟨d1, ds1, rfl, h1, d2, ds2, rfl, h2, d3, ds3, rfl, h3, rfl⟩ := h
      exact Nat.le_of_ble_eq_true rfl
    · obtain ⟨ds, ⟨d1, ds1, rfl, rfl, d2, ds2, rfl, rfl, d3, ds3, rfl, ⟨rows, hS, rfl⟩, rfl⟩, rfl⟩ := hd
      exact ⟨⟨n, ts, ps, rows, ⟨hW, hw, hn2, hn30, hP, hp2 hn2, by omega, hS⟩, rfl⟩, _, rfl, by omega⟩
end
end Pw

/-! ## K24_law_bent -/
namespace Pw
open PySem L2 Evl
def fBent24 (ds : List PyData) (post : PyData → Prop) : Prop := ∃ n ts ps rows, ds = [.list (List.map PyData.int ps), shD false rows] ∧ ShW n ts ps rows ∧ post = Good
theorem bent24_ok {K : PySem.W.Frag} {n : Int} {ts : List Tie} {ps : List Int} {rows : List (List Rat)} (h : ShW n ts ps rows) : DrawOk K (spX K 20 fBent24) 20 [.list (List.map PyData.int ps), shD false rows] Good := spX_ok ⟨n, ts, ps, rows, rfl, h, rfl⟩
theorem news_ok {a b : Int} (ha : a.natAbs ≤ 60000) (hb : b.natAbs ≤ 60000) : (∀ x ∈ [.tuple [.int (2 * a), .int (2 * b)], .tuple [.int (-a), .int b], .tuple [.int (a + 1), .int b], .tuple [.int a, .int (-b)], .tuple [.int a, .int 0], .list [.int a, .int b], .tuple [.int a], .none], Tg 1 x) ∧
    ∀ x ∈ [.tuple [.int a, .int b, .int 1], .int a, .tuple [.bool (decide (a = 1)), .int b], .tuple [.int a, .bool (decide (b = 1))], .tuple [.str (PySem.Str.ofString (toString a)), .int b], .tuple [.int 0, .int 2], .tuple [.int 1, .int 1], PyData.tuple []], Tg 1 x := by
  have ia : ∀ {n : Nat}, Tg n (.int a) := tg_int (by omega)
  have ib : ∀ {n : Nat}, Tg n (.int b) := tg_int (by omega)
  refine ⟨?_, ?_⟩
  · exact all_cons (tg_t2 (by decide) (tg_int (by omega)) (tg_int (by omega))) (all_cons (tg_t2 (by decide) (tg_int (by omega)) ib) (all_cons (tg_t2 (by decide) (tg_int (by omega)) ib) (all_cons (tg_t2 (by decide) ia (tg_int (by omega))) (all_cons (tg_t2 (by decide) ia (tg_int (by decide))) (all_cons (tg_l2 (by decide) ia ib) (all_cons (tg_t1 (by decide) ia) (all_cons tg_non all_nil)))))))
  · exact all_cons (tg_t3 (by decide) ia ib (tg_int (by decide))) (all_cons ia (all_cons (tg_t2 (by decide) tg_bool ib) (all_cons (tg_t2 (by decide) ia tg_bool) (all_cons (tg_t2 (by decide) (tg_strI (by omega)) ib) (all_cons (tg_t2 (by decide) (tg_int (by decide)) (tg_int (by decide))) (all_cons (tg_t2 (by decide) (tg_int (by decide)) (tg_int (by decide))) (all_cons (tg_seq (t := true) (n := 0) (by decide) all_nil (by decide)) all_nil)))))))
theorem log_small {a : Int} (ha : a.natAbs ≤ 60000) : a.natAbs.log2 < 1920 := by
  by_cases z : a.natAbs = 0
  · rw [z]; decide
  · exact Nat.lt_trans ((Nat.log2_lt (k := 200) z).mpr (Nat.lt_of_le_of_lt ha (by decide))) (by decide)

section
variable {P : Program} {w : World} {K : PySem.W.Frag} {mg : Str → Option Value} {base : Heap}
theorem sc_law_bent : FnScope nm_law_bent ps_law_bent (defScope s_law_bent) := ⟨rfl, rfl, rfl, by decide +kernel, rfl, by decide +kernel, by decide +kernel⟩
theorem ok_law_bent {f : Addr} {fd : FuncData} (T : Txt mg) (Ds : Defs K mg) (D : Dfn K mg "_law_bent" s_law_bent ps_law_bent f fd) : FnOk P w K mg base CX0 2 f fd ps_law_bent (spX K 20 fBent24) := by
  obtain ⟨f_law_take, fd_law_take, D_law_take⟩ := Ds.d_law_take
  have G_law_take := ok_law_take (P := P) (w := w) (base := base) T Ds D_law_take
  refine D.F.ok sc_law_bent (fun vs H Q E h => ?_) (fun cdv A outer s H vs Q E hr h => ?_)
  · obtain ⟨S, B, b, c, us, ds, post, rfl, w, hb, hB, hc, hd, ⟨n, ts, ps, rows, rfl, _⟩, q⟩ := h
    exact congrArg (· + 1) (DqAll.length hd)
  · obtain ⟨S, B, b, c, us, ds, post, rfl, w, hb, hB, hc, hd, ⟨n, ts, ps, rows, rfl, hw, rfl⟩, q⟩ := h
    have hr_law_take := hr.mono (show 1 ≤ 1 by decide)
    obtain ⟨v1, v2, rfl, h1, h2⟩ := two_args hd
    refine ⟨_, (pss_cons (ps_asg (pe_tup (pa_cons (pe_call G_law_take hr_law_take (by rfl) D_law_take.g D_law_take.F.kp D_law_take.b .nil pass0 (pa_cons (pv 0) (pa_cons (pe_callB call_len_seq (by rfl) T.m_len (by decide +kernel) (pa_cons (pv 2) pa_nil)) pa_nil))) (pa_cons (pe_call G_law_take hr_law_take (by rfl) D_law_take.g D_law_take.F.kp D_law_take.b .nil pass0 (pa_cons (pv 0) (pa_cons (pe_callB call_len_seq (by rfl) T.m_len (by decide +kernel) (pa_cons (pv 1) pa_nil)) pa_nil))) pa_nil))) (pg_tup (by rfl) (pgs_cons (pg_name (i := 3) sc_law_bent.nd rfl (Or.inr rfl)) (pgs_cons (pg_name (i := 4) sc_law_bent.nd rfl (Or.inr rfl)) pgs_nil))))
      (pss_cons (ps_set (i := 5) sc_law_bent.nd rfl (Or.inr rfl) (pe_callTy call_list_of (by rfl) T.m_list (by decide +kernel) (pa_cons (pe_ix ix_list (pv 2) (pv 3) (fun _ _ => rfl)) pa_nil)))
      (pss_cons (ps_asg (pe_ix ix_list (pv 5) (pv 4) (fun _ _ => rfl)) (pg_tup (by rfl) (pgs_cons (pg_name (i := 6) sc_law_bent.nd rfl (Or.inl rfl)) (pgs_cons (pg_name (i := 7) sc_law_bent.nd rfl (Or.inl rfl)) pgs_nil))))
      (pss_cons (ps_set (i := 8) sc_law_bent.nd rfl (Or.inl rfl) (pe_lst (pa_cons (pe_tup (pa_cons (pe_op op_mul pe_int (pv 6)) (pa_cons (pe_op op_mul pe_int (pv 7)) pa_nil))) (pa_cons (pe_tup (pa_cons (pe_un un_neg (pv 6)) (pa_cons (pv 7) pa_nil))) (pa_cons (pe_tup (pa_cons (pe_op op_add (pv 6) pe_int) (pa_cons (pv 7) pa_nil))) (pa_cons (pe_tup (pa_cons (pv 6) (pa_cons (pe_un un_neg (pv 7)) pa_nil))) (pa_cons (pe_tup (pa_cons (pv 6) (pa_cons pe_int pa_nil))) (pa_cons (pe_lst (pa_cons (pv 6) (pa_cons (pv 7) pa_nil))) (pa_cons (pe_tup (pa_cons (pv 6) pa_nil)) (pa_cons pe_non pa_nil))))))))))
      (pss_cons (ps_set (i := 8) sc_law_bent.nd rfl (Or.inl rfl) (pe_op op_catQ (pv 8) (pe_lst (pa_cons (pe_tup (pa_cons (pv 6) (pa_cons (pv 7) (pa_cons pe_int pa_nil)))) (pa_cons (pv 6) (pa_cons (pe_tup (pa_cons (pe_cmpR op_eq (pv 6) pe_int (nomark _)) (pa_cons (pv 7) pa_nil))) (pa_cons (pe_tup (pa_cons (pv 6) (pa_cons (pe_cmpR op_eq (pv 7) pe_int (nomark _)) pa_nil))) (pa_cons (pe_tup (pa_cons (pe_callTy call_str_int (by rfl) T.m_str (by decide +kernel) (pa_cons (pv 6) pa_nil)) (pa_cons (pv 7) pa_nil))) (pa_cons (pe_tup (pa_cons pe_int (pa_cons pe_int pa_nil))) (pa_cons (pe_tup (pa_cons pe_int (pa_cons pe_int pa_nil))) (pa_cons (pe_tup pa_nil) pa_nil)))))))))))
      (pss_cons (ps_setLc (i := 9) (own := [("_law_new", 11)]) (g := (gName 11)) (by rfl) sc_law_bent.nd rfl rfl (sw_true rfl rfl rfl (by decide +kernel)) (pi_list (pv 8)) (blkOk_by (own := [("_law_new", 11)]) (N := nm_law_bent) (sc := defScope s_law_bent) (by decide +kernel)) (fun _ _ _ _ _ => (pg_name (i := 11) sc_law_bent.nd rfl (Or.inl rfl))) (fun _ _ _ _ _ => pts_nil) (fun _ _ _ _ _ => (pe_op (r := rCatQ K) op_catQ (pe_op (r := rCatQ K) op_catQ (pe_slice (r := rSlL K) sl_list (pv 5) po_none (po_some (pv 4))) (pe_lst (pa_cons (pv 11) pa_nil))) (pe_slice (r := rSlL K) sl_list (pv 5) (po_some (pe_op op_add (pv 4) pe_int)) po_none))))
      (pss_cons (ps_set (i := 9) sc_law_bent.nd rfl (Or.inl rfl) (pe_op op_catQ (pv 9) (pe_lst (pa_cons (pe_slice sl_list (pv 5) (po_some pe_int) po_none) (pa_cons (pe_op op_catQ (pv 5) (pe_lst (pa_cons (pe_tup (pa_cons pe_int (pa_cons pe_int pa_nil))) pa_nil))) (pa_cons (pe_revL (pv 5)) (pa_cons (pe_callTy call_tuple_of (by rfl) T.m_tuple (by decide +kernel) (pa_cons (pv 5) pa_nil)) (pa_cons pe_non (pa_cons (pe_lst pa_nil) (pa_cons pe_str (pa_cons (pe_op op_rep (pe_lst (pa_cons (pe_tup (pa_cons pe_int (pa_cons pe_int pa_nil))) pa_nil)) (pe_callB call_len_seq (by rfl) T.m_len (by decide +kernel) (pa_cons (pv 5) pa_nil))) pa_nil)))))))))))
      (pss_cons (ps_set (i := 9) sc_law_bent.nd rfl (Or.inl rfl) (pe_op op_catQ (pv 9) (pe_lst (pa_cons (pe_op op_catQ (pe_op op_catQ (pe_slice sl_list (pv 5) po_none (po_some (pv 4))) (pe_lst (pa_cons (pe_tup (pa_cons pe_int (pa_cons pe_int pa_nil))) pa_nil))) (pe_slice sl_list (pv 5) (po_some (pe_op op_add (pv 4) pe_int)) po_none)) (pa_cons (pe_op op_rep (pe_lst (pa_cons (pe_tup (pa_cons pe_int (pa_cons (pe_callB call_len_seq (by rfl) T.m_len (by decide +kernel) (pa_cons (pv 5) pa_nil)) pa_nil))) pa_nil)) (pe_callB call_len_seq (by rfl) T.m_len (by decide +kernel) (pa_cons (pv 5) pa_nil))) pa_nil)))))
      (pss_cons (ps_setLc (i := 10) (own := [("_law_one", 12)]) (g := (gName 12)) (by rfl) sc_law_bent.nd rfl rfl (sw_true rfl rfl rfl (by decide +kernel)) (pi_list (pv 9)) (blkOk_by (own := [("_law_one", 12)]) (N := nm_law_bent) (sc := defScope s_law_bent) (by decide +kernel)) (fun _ _ _ _ _ => (pg_name (i := 12) sc_law_bent.nd rfl (Or.inl rfl))) (fun _ _ _ _ _ => pts_nil) (fun _ _ _ _ _ => (pe_op (r := rCatQ K) op_catQ (pe_op (r := rCatQ K) op_catQ (pe_slice (r := rSlL K) sl_list (pv 2) po_none (po_some (pv 3))) (pe_lst (pa_cons (pv 12) pa_nil))) (pe_slice (r := rSlL K) sl_list (pv 2) (po_some (pe_op op_add (pv 3) pe_int)) po_none))))
      (pss_cons (ps_set (i := 10) sc_law_bent.nd rfl (Or.inl rfl) (pe_op op_catQ (pv 10) (pe_lst (pa_cons (pe_slice sl_list (pv 2) (po_some pe_int) po_none) (pa_cons (pe_op op_catQ (pv 2) (pe_slice sl_list (pv 2) po_none (po_some pe_int))) (pa_cons (pe_callTy call_tuple_of (by rfl) T.m_tuple (by decide +kernel) (pa_cons (pv 2) pa_nil)) (pa_cons pe_non (pa_cons pe_int (pa_cons pe_str (pa_cons pe_bl (pa_cons (pe_ix ix_list (pv 2) (pv 3) (fun _ _ => rfl)) (pa_cons (pe_lst pa_nil) pa_nil))))))))))))
      (pss_one (ps_ret (pe_ix ix_list (pv 10) (pe_call G_law_take hr_law_take (by rfl) D_law_take.g D_law_take.F.kp D_law_take.b .nil pass0 (pa_cons (pv 0) (pa_cons (pe_callB call_len_seq (by rfl) T.m_len (by decide +kernel) (pa_cons (pv 10) pa_nil)) pa_nil))) (fun _ _ => rfl)))))))))))))), ?_⟩
    refine fn_draw w hb (sl_some (s := .b b c) ⟨rfl, .inl (List.mem_singleton.mpr rfl), hb, hB⟩ (sl_some (s := .d _) h1 (sl_some (s := .d _) h2 (sl_none (sl_none (sl_none (sl_none (sl_none (sl_none (sl_none (sl_none (sl_none (sl_none sl_nil))))))))))))) rfl ?_ q
    have hrl := hw.rl
    have hn2 := hw.n2
    have hlen := hw.S.len
    have hp6 := hw.p6
    have hp0 := hw.p0
    have shth := (shares_th (t := false) hw).1
    refine s_mid (fun Γ' => ∃ (c1 : Nat) (p : Nat) (q : Nat), c1 ≤ c + 4 ∧ p < rows.length ∧ q < ps.length ∧ Γ' = [some (.b b c1), some (.d (.list (List.map PyData.int ps))), some (.d (shD false rows)), some (.d (.int (p : Int))), some (.d (.int (q : Int))), none, none, none, none, none, none, none, none]) ?_ ?_
    · refine s_asgTV (i := 0) (Γ2 := fun d => match d with | .tuple [a, b'] => [some (.b b (c + (1 + 1 + (1 + 1 + 0)))), some (.d (.list (List.map PyData.int ps))), some (.d (shD false rows)), some (.d a), some (.d b'), none, none, none, none, none, none, none, none] | _ => []) rfl (v_tup (av_cons (v_call (na_cons (n_len (t := false) (ds := rows.map (rowD false)) (n_rd rfl rfl)) na_nil) (take_ok (by rw [List.length_map]; omega) (by rw [List.length_map]; omega))) (av_cons (v_call (na_cons (n_len (t := false) (ds := ps.map PyData.int) (n_rd rfl rfl)) na_nil) (take_ok (by rw [List.length_map]; omega) (by rw [List.length_map]; omega))) av_nil)) fun ds h => ?_) (by unfold lid; omega) (fun d hd => ?_) fun d hd => ?_
      · obtain ⟨_, _, rfl, _, _, _, rfl, _, rfl⟩ := h
        exact Nat.le_of_ble_eq_true rfl
      · obtain ⟨ds, ⟨_, _, rfl, _, _, _, rfl, _, rfl⟩, rfl⟩ := hd
        exact gt_tup rfl (gts_cons gt_1 (gts_cons gt_1 gts_nil))
      · obtain ⟨ds, ⟨_, _, rfl, ⟨v, rfl, hv⟩, _, _, rfl, ⟨u, rfl, hu⟩, rfl⟩, rfl⟩ := hd
        rw [List.length_map] at hv hu
        refine ⟨c + (1 + 1 + (1 + 1 + 0)), v.toNat, u.toNat, Nat.le_refl _, by omega, by omega, ?_⟩
        rw [show ((v.toNat : Nat) : Int) = v by omega, show ((u.toNat : Nat) : Int) = u by omega]
    rintro Γ' ⟨c1, p, q, hc1, hp, hq, rfl⟩
    obtain ⟨row, hrow⟩ : ∃ row, rows[p]? = some row := ⟨rows[p], List.getElem?_eq_getElem hp⟩
    have hrm := List.mem_of_getElem? hrow
    have hro := hw.S.row row hrm
    have hrlen := hro.1
    have hbd := row_bnd hro
    obtain ⟨r, hr⟩ : ∃ r, row[q]? = some r := ⟨row[q], List.getElem?_eq_getElem (by omega)⟩
    have hrb := hbd r (List.mem_of_getElem? hr)
    have row1 : ∀ x ∈ row.map ratD, Tg 1 x := fun x hx => by
      obtain ⟨y, hy, rfl⟩ := List.mem_map.mp hx
      exact tg_rat (by decide) (hbd y hy).1 (hbd y hy).2
    have row2 : ∀ x ∈ row.map ratD, Tg 2 x := fun x hx => by
      obtain ⟨y, hy, rfl⟩ := List.mem_map.mp hx
      exact tg_rat (by decide) (hbd y hy).1 (hbd y hy).2
    have sh2 : ∀ x ∈ rows.map (rowD false), Tg 2 x := fun x hx => by
      obtain ⟨y, hy, rfl⟩ := List.mem_map.mp hx
      have hy2 := hw.S.row y hy
      refine tg_seq (n := 1) (t := false) (by decide) (fun x hx => ?_) (by rw [List.length_map, hy2.1]; exact Nat.le_trans hp6 (by decide))
      obtain ⟨z, hz, rfl⟩ := List.mem_map.mp hx
      have := row_bnd hy2 z hz
      exact tg_rat (by decide) this.1 this.2
    obtain ⟨R, hR⟩ : ∃ R, R = row.map ratD := ⟨_, rfl⟩
    obtain ⟨W, hW⟩ : ∃ W, W = rows.map (rowD false) := ⟨_, rfl⟩
    have hRl : R.length = ps.length := by rw [hR, List.length_map]; exact hrlen
    have hWl : W.length = rows.length := by rw [hW, List.length_map]
    have hsh : shD false rows = .list W := by rw [hW]; rfl
    have hWp : W[p]? = some (.list R) := by rw [hW, List.getElem?_map, hrow, hR]; rfl
    have hRq : R[q]? = some (ratD r) := by rw [hR, List.getElem?_map, hr]; rfl
    rw [hsh]
    rw [← hR] at row1 row2
    rw [← hW] at sh2
    obtain ⟨a, ha⟩ : ∃ a, a = r.num := ⟨_, rfl⟩
    obtain ⟨b', hb'⟩ : ∃ b' : Int, b' = (r.den : Int) := ⟨_, rfl⟩
    have ha6 : a.natAbs ≤ 60000 := by rw [ha]; exact hrb.2
    have hb6 : b'.natAbs ≤ 60000 := by rw [hb', Int.natAbs_natCast]; exact hrb.1
    have hRq2 : R[q]? = some (.tuple [.int a, .int b']) := by rw [hRq, ha, hb']; rfl
    obtain ⟨hN1, hN2⟩ := news_ok ha6 hb6
    clear hRq hrb hsh hR hW ha hb' hr hbd
    refine s_seq (s_asg (n_list (t := false) (ds := R) (n_ixL (ds := W) (d := .list R) (n_rd rfl rfl) (n_rd rfl rfl) (atI_at (by omega) (by rw [Int.toNat_natCast]; exact hWp)))) ?_)
    refine s_seq (s_asgT (d := .tuple [.int a, .int b']) (n_ixL (ds := R) (n_rd rfl rfl) (n_rd rfl rfl) (atI_at (by omega) (by rw [Int.toNat_natCast]; exact hRq2))) (gt_tup rfl (gts_cons gt_1 (gts_cons gt_1 gts_nil))) ?_)
    refine s_seq (s_asg (n_lst (na_cons (n_tup (na_cons (n_mul n_int (n_rd rfl rfl) ?_) (na_cons (n_mul n_int (n_rd rfl rfl) ?_) na_nil)) (Nat.le_of_ble_eq_true rfl)) (na_cons (n_tup (na_cons (n_neg (n_rd rfl rfl)) (na_cons (n_rd rfl rfl) na_nil)) (Nat.le_of_ble_eq_true rfl)) (na_cons (n_tup (na_cons (n_add (n_rd rfl rfl) n_int) (na_cons (n_rd rfl rfl) na_nil)) (Nat.le_of_ble_eq_true rfl)) (na_cons (n_tup (na_cons (n_rd rfl rfl) (na_cons (n_neg (n_rd rfl rfl)) na_nil)) (Nat.le_of_ble_eq_true rfl)) (na_cons (n_tup (na_cons (n_rd rfl rfl) (na_cons n_int na_nil)) (Nat.le_of_ble_eq_true rfl)) (na_cons (n_lst (na_cons (n_rd rfl rfl) (na_cons (n_rd rfl rfl) na_nil)) (Nat.le_of_ble_eq_true rfl)) (na_cons (n_tup (na_cons (n_rd rfl rfl) na_nil) (Nat.le_of_ble_eq_true rfl)) (na_cons n_non na_nil)))))))) (Nat.le_of_ble_eq_true rfl)) ?_)
    · exact .inl ⟨by decide, by decide⟩
    · exact .inl ⟨by decide, by decide⟩
    obtain ⟨N1, hN1e⟩ : ∃ N1, N1 = [.tuple [.int (2 * a), .int (2 * b')], .tuple [.int (-a), .int b'], .tuple [.int (a + 1), .int b'], .tuple [.int a, .int (-b')], .tuple [.int a, .int 0], .list [.int a, .int b'], .tuple [.int a], PyData.none] := ⟨_, rfl⟩
    rw [← hN1e] at hN1 ⊢
    have hN1l : N1.length = 8 := by rw [hN1e]; rfl
    clear hN1e
    refine s_seq (s_asg (n_catQ (n_rd rfl rfl) (n_lst (na_cons (n_tup (na_cons (n_rd rfl rfl) (na_cons (n_rd rfl rfl) (na_cons n_int na_nil))) (Nat.le_of_ble_eq_true rfl)) (na_cons (n_rd rfl rfl) (na_cons (n_tup (na_cons (n_eqI (n_rd rfl rfl) n_int) (na_cons (n_rd rfl rfl) na_nil)) (Nat.le_of_ble_eq_true rfl)) (na_cons (n_tup (na_cons (n_rd rfl rfl) (na_cons (n_eqI (n_rd rfl rfl) n_int) na_nil)) (Nat.le_of_ble_eq_true rfl)) (na_cons (n_tup (na_cons (n_strI (n_rd rfl rfl) (log_small ha6)) (na_cons (n_rd rfl rfl) na_nil)) (Nat.le_of_ble_eq_true rfl)) (na_cons (n_tup (na_cons n_int (na_cons n_int na_nil)) (Nat.le_of_ble_eq_true rfl)) (na_cons (n_tup (na_cons n_int (na_cons n_int na_nil)) (Nat.le_of_ble_eq_true rfl)) (na_cons (n_tup na_nil (Nat.le_of_ble_eq_true rfl)) na_nil)))))))) (Nat.le_of_ble_eq_true rfl)) (by rw [hN1l]; exact Nat.le_of_ble_eq_true rfl)) ?_)
    obtain ⟨N, hNe⟩ : ∃ N, N = N1 ++ [.tuple [.int a, .int b', .int 1], .int a, .tuple [.bool (decide (a = 1)), .int b'], .tuple [.int a, .bool (decide (b' = 1))], .tuple [.str (PySem.Str.ofString (toString a)), .int b'], .tuple [.int 0, .int 2], .tuple [.int 1, .int 1], PyData.tuple []] := ⟨_, rfl⟩
    have hN : ∀ x ∈ N, Tg 1 x := by rw [hNe]; exact all_app hN1 hN2
    have hNl : N.length = 16 := by rw [hNe, List.length_append, hN1l]; rfl
    rw [← hNe]
    clear hNe hN1 hN2 hN1l
    have cutl : ∀ (X : List PyData) (lo hi : Option Int), (cutA X lo hi).length ≤ X.length := fun X lo hi => len_cut X lo hi
    have newR : ∀ x, Tg 1 x → Tg 2 (.list (cutA R none (some (q : Int)) ++ [x] ++ cutA R (some ((q : Int) + 1)) none)) := fun x hx => tg_seq (n := 1) (t := false) (by decide) (all_app (all_app (all_cut row1) (all_cons hx all_nil)) (all_cut row1)) (by
      have h1 := cutl R none (some (q : Int))
      have h2 := cutl R (some ((q : Int) + 1)) none
      rw [List.length_append, List.length_append]
      show _ + 1 + _ ≤ 16
      omega)
    refine s_seq (s_asg (d := .list (N.map fun x => .list (cutA R none (some (q : Int)) ++ [x] ++ cutA R (some ((q : Int) + 1)) none))) (n_lc1 N id (fun x => .list (cutA R none (some (q : Int)) ++ [x] ++ cutA R (some ((q : Int) + 1)) none)) (nw_list (by rw [List.map_id]; exact n_rd rfl rfl)) (by omega) fun x hx => nt (gn_1 (by decide)) nb_yes fun _ => n_catQ (n_catQ (n_slL (n_rd rfl rfl) np_none (np_some (n_rd rfl rfl))) (n_lst (na_cons (n_rd rfl rfl) na_nil) (Nat.le_of_ble_eq_true rfl)) ?_) (n_slL (n_rd rfl rfl) (np_some (n_add (n_rd rfl rfl) n_int)) np_none) ?_) ?_)
    · have h1 := cutl R none (some (q : Int))
      show _ + 1 ≤ _
      omega
    · have h1 := cutl R none (some (q : Int))
      have h2 := cutl R (some ((q : Int) + 1)) none
      rw [List.length_append]
      show _ + 1 + _ ≤ _
      omega
    obtain ⟨M1, hM1e⟩ : ∃ M1, M1 = N.map fun x => PyData.list (cutA R none (some (q : Int)) ++ [x] ++ cutA R (some ((q : Int) + 1)) none) := ⟨_, rfl⟩
    have hM1 : ∀ x ∈ M1, Tg 2 x := by
      rw [hM1e]
      intro x hx
      obtain ⟨y, hy, rfl⟩ := List.mem_map.mp hx
      exact newR y (hN y hy)
    have hM1l : M1.length = 16 := by rw [hM1e, List.length_map]; exact hNl
    rw [← hM1e]
    clear hM1e
    refine s_seq (s_asg (n_catQ (n_rd rfl rfl) (n_lst (na_cons (n_slL (n_rd rfl rfl) (np_some n_int) np_none) (na_cons (n_catQ (n_rd rfl rfl) (n_lst (na_cons (n_tup (na_cons n_int (na_cons n_int na_nil)) (Nat.le_of_ble_eq_true rfl)) na_nil) (Nat.le_of_ble_eq_true rfl)) ?_) (na_cons (n_rev (n_rd rfl rfl)) (na_cons (n_tuple (t := false) (ds := R) (n_rd rfl rfl)) (na_cons n_non (na_cons (n_lst na_nil (Nat.le_of_ble_eq_true rfl)) (na_cons n_str (na_cons (n_rep (n_tup (na_cons n_int (na_cons n_int na_nil)) (Nat.le_of_ble_eq_true rfl)) (n_len (t := false) (ds := R) (n_rd rfl rfl)) (by omega)) na_nil)))))))) (Nat.le_of_ble_eq_true rfl)) ?_) ?_)
    · show _ + 1 ≤ _
      omega
    · show _ + 8 ≤ _
      omega
    obtain ⟨M2, hM2e⟩ : ∃ M2, M2 = M1 ++ [.list (cutA R (some 1) none), .list (R ++ [.tuple [.int 0, .int 1]]), .list R.reverse, .tuple R, .none, .list [], .str "", PyData.list (List.replicate ((R.length : Nat) : Int).toNat (.tuple [.int 1, .int 1]))] := ⟨_, rfl⟩
    have hM2 : ∀ x ∈ M2, Tg 2 x := by
      rw [hM2e]
      have i11 : Tg 1 (.tuple [.int 1, .int 1]) := tg_t2 (by decide) (tg_int (by decide)) (tg_int (by decide))
      refine all_app hM1 (all_cons (tg_seq (n := 1) (t := false) (by decide) (all_cut row1) ?_) (all_cons (tg_seq (n := 1) (t := false) (by decide) (all_app row1 (all_cons (tg_t2 (by decide) (tg_int (by decide)) (tg_int (by decide))) all_nil)) ?_) (all_cons (tg_seq (n := 1) (t := false) (by decide) (all_rev row1) ?_) (all_cons (tg_seq (n := 1) (t := true) (by decide) row1 ?_) (all_cons tg_non (all_cons (tg_seq (n := 1) (t := false) (by decide) all_nil (by decide)) (all_cons (tg_str (s := "") (by decide)) (all_cons (tg_seq (n := 1) (t := false) (by decide) (all_rep i11) ?_) all_nil))))))))
      · have h1 := cutl R (some 1) none
        show _ ≤ 16
        omega
      · rw [List.length_append]
        show _ + 1 ≤ 16
        omega
      · rw [List.length_reverse]
        show _ ≤ 16
        omega
      · show _ ≤ 16
        omega
      · rw [List.length_replicate]
        show _ ≤ 16
        omega
    have hM2l : M2.length = 24 := by rw [hM2e, List.length_append, hM1l]; rfl
    rw [← hM2e]
    clear hM2e
    refine s_seq (s_asg (n_catQ (n_rd rfl rfl) (n_lst (na_cons (n_catQ (n_catQ (n_slL (n_rd rfl rfl) np_none (np_some (n_rd rfl rfl))) (n_lst (na_cons (n_tup (na_cons n_int (na_cons n_int na_nil)) (Nat.le_of_ble_eq_true rfl)) na_nil) (Nat.le_of_ble_eq_true rfl)) ?_) (n_slL (n_rd rfl rfl) (np_some (n_add (n_rd rfl rfl) n_int)) np_none) ?_) (na_cons (n_rep (n_tup (na_cons n_int (na_cons (n_len (t := false) (ds := R) (n_rd rfl rfl)) na_nil)) (Nat.le_of_ble_eq_true rfl)) (n_len (t := false) (ds := R) (n_rd rfl rfl)) (by omega)) na_nil)) (Nat.le_of_ble_eq_true rfl)) ?_) ?_)
    · have h1 := cutl R none (some (q : Int))
      show _ + 1 ≤ _
      omega
    · have h1 := cutl R none (some (q : Int))
      have h2 := cutl R (some ((q : Int) + 1)) none
      rw [List.length_append]
      show _ + 1 + _ ≤ _
      omega
    · show _ + 2 ≤ _
      omega
    obtain ⟨M, hMe⟩ : ∃ M, M = M2 ++ [.list (cutA R none (some (q : Int)) ++ [.tuple [.int 1, .int 2]] ++ cutA R (some ((q : Int) + 1)) none), PyData.list (List.replicate ((R.length : Nat) : Int).toNat (.tuple [.int 1, .int ((R.length : Nat) : Int)]))] := ⟨_, rfl⟩
    have hM : ∀ x ∈ M, Tg 2 x := by
      rw [hMe]
      refine all_app hM2 (all_cons (newR _ (tg_t2 (by decide) (tg_int (by decide)) (tg_int (by decide)))) (all_cons (tg_seq (n := 1) (t := false) (by decide) (all_rep (tg_t2 (by decide) (tg_int (by decide)) (tg_int (by omega)))) ?_) all_nil))
      rw [List.length_replicate]
      show _ ≤ 16
      omega
    have hMl : M.length = 26 := by rw [hMe, List.length_append, hM2l]; rfl
    rw [← hMe]
    clear hMe
    have newW : ∀ x, Tg 2 x → Good (.list (cutA W none (some (p : Int)) ++ [x] ++ cutA W (some ((p : Int) + 1)) none)) := fun x hx => good_seq (t := false) (all_app (all_app (all_cut sh2) (all_cons hx all_nil)) (all_cut sh2)) (by
      have h1 := cutl W none (some (p : Int))
      have h2 := cutl W (some ((p : Int) + 1)) none
      rw [List.length_append, List.length_append]
      show _ + 1 + _ ≤ 64
      omega)
    refine s_seq (s_asg (d := .list (M.map fun x => .list (cutA W none (some (p : Int)) ++ [x] ++ cutA W (some ((p : Int) + 1)) none))) (n_lc1 M id (fun x => .list (cutA W none (some (p : Int)) ++ [x] ++ cutA W (some ((p : Int) + 1)) none)) (nw_list (by rw [List.map_id]; exact n_rd rfl rfl)) (by omega) fun x hx => nt (gn_1 (by decide)) nb_yes fun _ => n_catQ (n_catQ (n_slL (n_rd rfl rfl) np_none (np_some (n_rd rfl rfl))) (n_lst (na_cons (n_rd rfl rfl) na_nil) (Nat.le_of_ble_eq_true rfl)) ?_) (n_slL (n_rd rfl rfl) (np_some (n_add (n_rd rfl rfl) n_int)) np_none) ?_) ?_)
    · have h1 := cutl W none (some (p : Int))
      show _ + 1 ≤ _
      omega
    · have h1 := cutl W none (some (p : Int))
      have h2 := cutl W (some ((p : Int) + 1)) none
      rw [List.length_append]
      show _ + 1 + _ ≤ _
      omega
    obtain ⟨T1, hT1e⟩ : ∃ T1, T1 = M.map fun x => PyData.list (cutA W none (some (p : Int)) ++ [x] ++ cutA W (some ((p : Int) + 1)) none) := ⟨_, rfl⟩
    have hT1 : ∀ x ∈ T1, Good x := by
      rw [hT1e]
      intro x hx
      obtain ⟨y, hy, rfl⟩ := List.mem_map.mp hx
      exact newW y (hM y hy)
    have hT1l : T1.length = 26 := by rw [hT1e, List.length_map]; exact hMl
    rw [← hT1e]
    clear hT1e
    refine s_seq (s_asg (n_catQ (n_rd rfl rfl) (n_lst (na_cons (n_slL (n_rd rfl rfl) (np_some n_int) np_none) (na_cons (n_catQ (n_rd rfl rfl) (n_slL (n_rd rfl rfl) np_none (np_some n_int)) ?_) (na_cons (n_tuple (t := false) (ds := W) (n_rd rfl rfl)) (na_cons n_non (na_cons n_int (na_cons n_str (na_cons n_bl (na_cons (n_ixL (ds := W) (d := .list R) (n_rd rfl rfl) (n_rd rfl rfl) (atI_at (by omega) (by rw [Int.toNat_natCast]; exact hWp))) (na_cons (n_lst na_nil (Nat.le_of_ble_eq_true rfl)) na_nil))))))))) (Nat.le_of_ble_eq_true rfl)) ?_) ?_)
    · have h1 := cutl W none (some 1)
      omega
    · show _ + 9 ≤ _
      omega
    obtain ⟨T, hTe⟩ : ∃ T, T = T1 ++ [.list (cutA W (some 1) none), .list (W ++ cutA W none (some 1)), .tuple W, .none, .int 5, .str "shares", .bool true, .list R, PyData.list []] := ⟨_, rfl⟩
    have hT : ∀ x ∈ T, Good x := by
      rw [hTe]
      refine all_app hT1 (all_cons (good_seq (t := false) (all_cut sh2) ?_) (all_cons (good_seq (t := false) (all_app sh2 (all_cut sh2)) ?_) (all_cons (good_seq (t := true) sh2 ?_) (all_cons ⟨tg_non, .inr (.inl rfl)⟩ (all_cons ⟨tg_int (by decide), .inr (.inr (.inr (.inl ⟨5, rfl, by decide⟩)))⟩ (all_cons ⟨tg_str (s := "shares") (by decide), .inr (.inr (.inr (.inr ⟨_, rfl⟩)))⟩ (all_cons ⟨tg_bool, .inr (.inr (.inl ⟨_, rfl⟩))⟩ (all_cons (good_seq (t := false) row2 ?_) (all_cons (good_seq (t := false) all_nil (by decide)) all_nil)))))))))
      · have h1 := cutl W (some 1) none
        omega
      · have h1 := cutl W none (some 1)
        rw [List.length_append]
        omega
      · omega
      · omega
    have hTl : T.length = 35 := by rw [hTe, List.length_append, hT1l]; rfl
    rw [← hTe]
    clear hTe
    refine s_retV (i := 0) rfl (v_pick (ds := T) (n_rd rfl rfl) (n_len (t := false) (ds := T) (n_rd rfl rfl)) rfl (by rw [hTl]; decide) (by rw [hTl]; decide)) (by unfold lid; omega) fun d hd => ?_
    exact ⟨hT d hd, _, rfl, by omega⟩
end
end Pw

/-! ## K24_law_is_fraction -/
namespace Pw
open PySem L2 Evl
def fIsFrac (ds : List PyData) (d : PyData) : Prop := ∃ x, ds = [x] ∧ Th 1 x ∧ d = .bool (partD x)
theorem n_law_is_fraction {K : PySem.W.Frag} {Γ : En0} {tA : TA} {E : XK} {x : PyData} (h : EA K tA Γ [x]) (hT : Th 1 x) : EE K (tCall (spD K fIsFrac) [] E tA) Γ (.bool (partD x)) := n_call h ⟨x, rfl, hT, rfl⟩
def isIB (y : PyData) : Bool := (tyN y == "int" || tyN y == "bool") && !(tyN y == "bool")
theorem isIB_not {y : PyData} (h : (tyN y == "int") = false) : isIB y = false := by
  unfold isIB
  rw [h]
  cases (tyN y == "bool") <;> rfl
theorem part2 {xs : List PyData} (h : xs.length ≠ 2) : partD (.tuple xs) = false := by
  match xs, h with
  | [], _ => rfl
  | [_], _ => cases ‹PyData› <;> rfl
  | _ :: _ :: _ :: _, _ => unfold partD; split; · rename_i e; cases e
                           · rfl

section
variable {P : Program} {w : World} {K : PySem.W.Frag} {mg : Str → Option Value} {base : Heap}
theorem sc_law_is_fraction : FnScope nm_law_is_fraction ps_law_is_fraction (defScope s_law_is_fraction) := ⟨rfl, rfl, rfl, by decide +kernel, rfl, by decide +kernel, by decide +kernel⟩
theorem ok_law_is_fraction {f : Addr} {fd : FuncData} (T : Txt mg) (Ds : Defs K mg) (D : Dfn K mg "_law_is_fraction" s_law_is_fraction ps_law_is_fraction f fd) : FnOk P w K mg base CX0 2 f fd ps_law_is_fraction (spD K fIsFrac) := by
  obtain ⟨f_law_shared, fd_law_shared, D_law_shared⟩ := Ds.d_law_shared
  have G_law_shared := ok_law_shared (P := P) (w := w) (base := base) T Ds D_law_shared
  refine D.F.ok sc_law_is_fraction (fun vs H Q E h => ?_) (fun cdv A outer s H vs Q E hr h => ?_)
  · obtain ⟨S, B, ds, d, w, hd, ⟨x, rfl, _⟩, _⟩ := h
    exact DqAll.length hd
  · obtain ⟨S, B, ds, d, w, hd, ⟨x, rfl, hT, rfl⟩, q⟩ := h
    have hr_law_shared := hr.mono (show 1 ≤ 1 by decide)
    obtain ⟨v1, rfl, h1⟩ := one_arg hd
    refine ⟨_, (pss_cons (ps_if (PW.pt (pw_or (pt_not (pt_val (pe_callB call_isi (by rfl) T.m_isinstance (by decide +kernel) (pa_cons (pv 0) (pa_cons (pe_bltn (v := .ty "tuple") (by rfl) T.m_tuple (by decide +kernel) rfl) pa_nil))))) (pw_or1 (pt_cmpR op_ne (pe_callB call_len_seq (by rfl) T.m_len (by decide +kernel) (pa_cons (pv 0) pa_nil)) pe_int (nomark _)))))
        (pss_one (ps_ret pe_bl))
        pss_nil)
      (pss_cons (ps_if (pt_not (pt_val (pe_callB (cr_all rfl) (by rfl) T.m_all (by decide +kernel) (pa_cons (pe_lc (own := [("_law_part", 1)]) (g := (gName 1)) (by rfl) sc_law_is_fraction.nd (pi_tup (pv 0)) (blkOk_by (own := [("_law_part", 1)]) (N := nm_law_is_fraction) (sc := defScope s_law_is_fraction) (by decide +kernel)) (fun _ _ _ _ _ => (pg_name (i := 1) sc_law_is_fraction.nd rfl (Or.inl rfl))) (fun _ _ _ _ _ => pts_nil) (fun _ _ _ _ _ => (pe_and (pe_callB (r := rIsi K) call_isi (by rfl) T.m_isinstance (by decide +kernel) (pa_cons (pv 1) (pa_cons (pe_bltn (v := .ty "int") (by rfl) T.m_int (by decide +kernel) rfl) pa_nil))) (pe_one (pe_not (pe_callB (r := rIsi K) call_isi (by rfl) T.m_isinstance (by decide +kernel) (pa_cons (pv 1) (pa_cons (pe_bltn (v := .ty "bool") (by rfl) T.m_bool (by decide +kernel) rfl) pa_nil)))))))) pa_nil))))
        (pss_one (ps_ret pe_bl))
        pss_nil)
      (pss_one (ps_ret (pe_and (pe_cmpR op_gt (pe_ix ix_tup (pv 0) pe_int (fun _ _ => rfl)) pe_int (nomark _)) (pe_one (pe_cmpR op_eq (pe_call G_law_shared hr_law_shared (by rfl) D_law_shared.g D_law_shared.F.kp D_law_shared.b .nil pass0 (pa_cons (pe_callB call_abs (by rfl) T.m_abs (by decide +kernel) (pa_cons (pe_ix ix_tup (pv 0) pe_int (fun _ _ => rfl)) pa_nil)) (pa_cons (pe_ix ix_tup (pv 0) pe_int (fun _ _ => rfl)) pa_nil))) pe_int (nomark _)))))))), ?_⟩
    refine fn_pure w (sl_some (s := .d _) h1 (sl_none sl_nil)) rfl ?_ q
    have hk := kit_any x hT.nd
    rcases tup_or x with ⟨xs, rfl⟩ | ⟨z1, z2⟩
    · have hl := len_tup true hT
      refine s_seq (s_if (b := !decide (xs.length = 2)) (nb_is (nb_or (nb_not (nb_B (n_isi (n_rd rfl rfl) hk.1))) fun _ => nb_test (n_neI (n_len (t := true) (n_rd rfl rfl)) n_int)) (show (!true || !decide ((xs.length : Int) = 2)) = _ from ?_)) (fun h0 => ?_) (fun h0 => s_next ?_))
      · by_cases z : xs.length = 2
        · rw [decide_eq_true z, decide_eq_true (by omega)]
          rfl
        · rw [decide_eq_false z, decide_eq_false (by omega)]
          rfl
      · rw [Bool.not_eq_true', decide_eq_false_iff_not] at h0
        refine s_ret n_bl ?_
        rw [part2 h0]
      · rw [Bool.not_eq_false', decide_eq_true_iff] at h0
        refine s_seq (s_if (b := !xs.all isIB) (nb_not (nb_B (n_is (n_all (bs := xs.map isIB) (n_is (n_lc1 xs id (fun y => .bool (isIB y)) (nw_tup (by rw [List.map_id]; exact n_rd rfl rfl)) (by omega) fun y hy => nt (gn_1 (by decide)) nb_yes fun _ => n_and (n_isi (n_rd rfl rfl) (kit_any y (hl.2 y hy).nd).2.2.1) fun _ => n_not (n_isi (n_rd rfl rfl) (kit_any y (hl.2 y hy).nd).2.2.2)) (by rw [List.map_map]; rfl))) (by rw [List.all_map]; rfl)))) (fun h2 => ?_) (fun h2 => s_next ?_))
        · rw [Bool.not_eq_true'] at h2
          refine s_ret n_bl ?_
          match xs, h0, h2 with
          | [y0, y1], _, h2 =>
            have : partD (.tuple [y0, y1]) = false := by
              rcases int_or y1 with ⟨b, rfl⟩ | ⟨_, z⟩
              · rcases int_or y0 with ⟨a, rfl⟩ | ⟨_, z⟩
                · exact absurd h2 (by
                    show ¬ (isIB (.int a) && (isIB (.int b) && true)) = false
                    rw [show isIB (.int a) = true from by unfold isIB; show (("int" == "int" || "int" == "bool") && !("int" == "bool")) = true; decide, show isIB (.int b) = true from by unfold isIB; show (("int" == "int" || "int" == "bool") && !("int" == "bool")) = true; decide]
                    decide)
                · exact (z _).1
              · exact (z _).2
            rw [this]
        · rw [Bool.not_eq_false', List.all_eq_true] at h2
          match xs, h0, h2 with
          | [y0, y1], _, h2 =>
            have i0 := h2 y0 (by simp)
            have i1 := h2 y1 (by simp)
            rcases int_or y0 with ⟨a, rfl⟩ | ⟨z, _⟩
            · rcases int_or y1 with ⟨b, rfl⟩ | ⟨z, _⟩
              · refine s_ret (n_and (n_cmp (n_ixT (d := .int b) (n_rd rfl rfl) n_int rfl) n_int) fun hb => n_eqI (n_law_shared (na_cons (n_abs (n_ixT (d := .int a) (n_rd rfl rfl) n_int rfl)) (na_cons (n_ixT (d := .int b) (n_rd rfl rfl) n_int rfl) na_nil)) (by split <;> omega) (by replace hb := of_decide_eq_true hb; omega)) n_int) ?_
                show PyData.bool _ = PyData.bool (decide (1 ≤ b) && decide (Int.gcd a b = 1))
                have e : (if a < 0 then -a else a).natAbs = a.natAbs := by split <;> omega
                have e1 : Int.gcd (if a < 0 then -a else a) b = Int.gcd a b := by unfold Int.gcd; rw [e]
                rw [e1]
                congr 1
                have e2 : decide (b > 0) = decide (1 ≤ b) := by
                  by_cases z : 0 < b
                  · rw [decide_eq_true (show b > 0 from z), decide_eq_true (by omega)]
                  · rw [decide_eq_false (show ¬ b > 0 from z), decide_eq_false (by omega)]
                rw [e2]
                congr 1
                by_cases z : Int.gcd a b = 1
                · rw [z]
                  rfl
                · rw [decide_eq_false z, decide_eq_false (by omega)]
              · rw [isIB_not z] at i1
                cases i1
            · rw [isIB_not z] at i0
              cases i0
    · rw [z1] at hk
      refine s_seq (s_if (b := true) (nb_or (b' := true) (nb_not (nb_B (n_isi (n_rd rfl rfl) hk.1))) fun z => by cases z) (fun h0 => ?_) fun h0 => by cases h0)
      refine s_ret n_bl ?_
      rw [z2]
end
end Pw

/-! ## K24_law_plus -/
namespace Pw
open PySem L2 Evl
def fPlus (ds : List PyData) (d : PyData) : Prop := ∃ a b c e : Int, ds = [.tuple [.int a, .int b], .tuple [.int c, .int e]] ∧ 0 < b ∧ 0 < e ∧ Bit a 4000 ∧ Bit b 4000 ∧ Bit c 4000 ∧ Bit e 4000 ∧ d = ratD (Rat.divInt a b + Rat.divInt c e)
theorem n_law_plus {K : PySem.W.Frag} {Γ : En0} {tA : TA} {E : XK} {a b c e : Int} (h : EA K tA Γ [.tuple [.int a, .int b], .tuple [.int c, .int e]]) (h1 : 0 < b) (h2 : 0 < e) (h3 : Bit a 4000) (h4 : Bit b 4000) (h5 : Bit c 4000) (h6 : Bit e 4000) : EE K (tCall (spD K fPlus) [] E tA) Γ (ratD (Rat.divInt a b + Rat.divInt c e)) := n_call h ⟨a, b, c, e, rfl, h1, h2, h3, h4, h5, h6, rfl⟩

section
variable {P : Program} {w : World} {K : PySem.W.Frag} {mg : Str → Option Value} {base : Heap}
theorem sc_law_plus : FnScope nm_law_plus ps_law_plus (defScope s_law_plus) := ⟨rfl, rfl, rfl, by decide +kernel, rfl, by decide +kernel, by decide +kernel⟩
theorem ok_law_plus {f : Addr} {fd : FuncData} (T : Txt mg) (Ds : Defs K mg) (D : Dfn K mg "_law_plus" s_law_plus ps_law_plus f fd) : FnOk P w K mg base CX0 3 f fd ps_law_plus (spD K fPlus) := by
  obtain ⟨f_law_frac, fd_law_frac, D_law_frac⟩ := Ds.d_law_frac
  have G_law_frac := ok_law_frac (P := P) (w := w) (base := base) T Ds D_law_frac
  refine D.F.ok sc_law_plus (fun vs H Q E h => ?_) (fun cdv A outer s H vs Q E hr h => ?_)
  · obtain ⟨S, B, ds, d, w, hd, ⟨a, b, c, e2, rfl, _⟩, _⟩ := h
    exact DqAll.length hd
  · obtain ⟨S, B, ds, d, w, hd, ⟨a, b, c, e2, rfl, hb0, he0, ha, hb, hc, he, rfl⟩, q⟩ := h
    have hr_law_frac := hr.mono (show 2 ≤ 2 by decide)
    obtain ⟨v1, v2, rfl, h1, h2⟩ := two_args hd
    refine ⟨_, (pss_one (ps_ret (pe_call G_law_frac hr_law_frac (by rfl) D_law_frac.g D_law_frac.F.kp D_law_frac.b .nil pass0 (pa_cons (pe_op op_add (pe_op op_mulW (pe_ix ix_tup (pv 0) pe_int (fun _ _ => rfl)) (pe_ix ix_tup (pv 1) pe_int (fun _ _ => rfl))) (pe_op op_mulW (pe_ix ix_tup (pv 1) pe_int (fun _ _ => rfl)) (pe_ix ix_tup (pv 0) pe_int (fun _ _ => rfl)))) (pa_cons (pe_op op_mulW (pe_ix ix_tup (pv 0) pe_int (fun _ _ => rfl)) (pe_ix ix_tup (pv 1) pe_int (fun _ _ => rfl))) pa_nil))))), ?_⟩
    refine fn_pure w (sl_some (s := .d _) h1 (sl_some (s := .d _) h2 sl_nil)) rfl ?_ q
    refine s_ret (n_law_frac (na_cons (n_add (n_mul (n_ixT (n_rd rfl rfl) n_int rfl) (n_ixT (n_rd rfl rfl) n_int rfl) ?_) (n_mul (n_ixT (n_rd rfl rfl) n_int rfl) (n_ixT (n_rd rfl rfl) n_int rfl) ?_)) (na_cons (n_mul (n_ixT (n_rd rfl rfl) n_int rfl) (n_ixT (n_rd rfl rfl) n_int rfl) ?_) na_nil)) ?_ ?_) ?_
    · exact mulW ha he (by decide)
    · exact mulW hc hb (by decide)
    · exact mulW hb he (by decide)
    · exact Int.mul_pos hb0 he0
    · exact hb.mul he
    · exact congrArg ratD (Rat.divInt_add_divInt _ _ (by omega) (by omega)).symm
end
end Pw

/-! ## K24_law_is -/
namespace Pw
open PySem L2 Evl
def fLIs (ds : List PyData) (d : PyData) : Prop := ∃ (n : Int) (ts : List Tie) (ps : List Int) (x : PyData), ds = [webD n ts, .list (ps.map .int), x] ∧ Th 3 x ∧ PostsOk n ps ∧ ps.length ≤ 6 ∧ d = .bool (sharesB n ps x)
theorem n_law_is {K : PySem.W.Frag} {Γ : En0} {tA : TA} {E : XK} {n : Int} {ts : List Tie} {ps : List Int} {x : PyData} (h : EA K tA Γ [webD n ts, .list (ps.map .int), x]) (h1 : Th 3 x) (h2 : PostsOk n ps) (h3 : ps.length ≤ 6) : EE K (tCall (spD K fLIs) [] E tA) Γ (.bool (sharesB n ps x)) := n_call h ⟨n, ts, ps, x, rfl, h1, h2, h3, rfl⟩
def cellY (y : PyData) (i : Nat) : Rat := match rowXs y with
  | some row => toR (row.getD i .none)
  | none => 0
def rowG (ps : List Int) (j : Nat) (y : PyData) : Bool := rowB ps.length y && (!decide ((j : Int) ∈ ps) || decide (cellY y (ps.idxOf (j : Int)) = 1))
theorem cellR_eq {xs : List PyData} {p i : Nat} {y : PyData} (h : xs[p]? = some y) : cellR xs p i = cellY y i := by
  unfold cellR cellY
  rw [List.getD_eq_getElem?_getD, h]
  rfl
theorem shares_good {n : Int} {ps : List Int} {t : Bool} {xs : List PyData} (hP : PostsOk n ps) (hn : (xs.length : Int) = n) (h : ∀ (i : Nat) y, xs[i]? = some y → rowG ps i y = true) : sharesB n ps (seqD t xs) = true := by
  have hnd : ps.Nodup := List.nodup_iff_pairwise_ne.mpr (hP.rise.imp fun h e => by omega)
  rw [sharesB_seq, decide_eq_true hn, Bool.true_and, Bool.and_eq_true, List.all_eq_true, List.all_eq_true]
  refine ⟨fun y hy => ?_, fun x hx => ?_⟩
  · obtain ⟨i, hi⟩ := List.mem_iff_getElem?.mp hy
    have := h i y hi
    unfold rowG at this
    rw [Bool.and_eq_true] at this
    exact this.1
  · have hi := List.mem_zipIdx hx
    have hl : x.2 < ps.length := by omega
    have e : x.1 = ps[x.2] := by rw [hi.2.2]; congr 1; 
    have hm : x.1 ∈ ps := by rw [e]; exact List.getElem_mem _
    have hr := hP.rng _ hm
    have hp : x.1.toNat < xs.length := by omega
    have hg := h x.1.toNat _ (List.getElem?_eq_getElem hp)
    unfold rowG at hg
    have ec : ((x.1.toNat : Nat) : Int) = x.1 := by omega
    rw [ec, Bool.and_eq_true, decide_eq_true hm, Bool.not_true, Bool.false_or] at hg
    rw [cellR_eq (List.getElem?_eq_getElem hp)]
    have hx2 : ps.idxOf x.1 = x.2 := by rw [e]; exact idx_of hnd hl
    rw [← hx2]
    exact hg.2
theorem shares_bad {n : Int} {ps : List Int} {t : Bool} {xs : List PyData} {i : Nat} {y : PyData} (hy : xs[i]? = some y) (h : rowG ps i y = false) : sharesB n ps (seqD t xs) = false := by
  rw [sharesB_seq]
  unfold rowG at h
  rw [Bool.and_eq_false_iff] at h
  rcases h with h | h
  · have : xs.all (rowB ps.length) = false := List.all_eq_false.mpr ⟨y, List.mem_of_getElem? hy, by rw [h]; decide⟩
    rw [this, Bool.and_false, Bool.false_and]
  · rw [Bool.or_eq_false_iff, Bool.not_eq_false', decide_eq_true_iff] at h
    have hi := List.idxOf_lt_length_of_mem h.1
    have : (ps.zipIdx.all fun x => decide (cellR xs x.1.toNat x.2 = 1)) = false := by
      refine List.all_eq_false.mpr ⟨((i : Int), ps.idxOf (i : Int)), ?_, ?_⟩
      · refine List.mem_zipIdx_iff_getElem?.mpr ?_
        rw [List.getElem?_eq_getElem hi, List.getElem_idxOf hi]
      · show ¬ decide (cellR xs ((i : Int)).toNat _ = 1) = true
        rw [Int.toNat_natCast, cellR_eq hy, h.2]
        decide
    rw [this, Bool.and_false]
theorem all_and2 {α : Type} (p q : α → Bool) : ∀ l : List α, (l.all fun x => p x && q x) = (l.all p && l.all q)
  | [] => rfl
  | a :: l => by
    rw [List.all_cons, List.all_cons, List.all_cons, all_and2 p q l]
    cases p a <;> cases q a <;> cases l.all p <;> cases l.all q <;> rfl
theorem rowG_rat {ps : List Int} {j : Nat} {t : Bool} {rs : List Rat} (hl : rs.length = ps.length) (hn : (rs.map ratD).all nonD = true) : rowG ps j (seqD t (rs.map ratD)) = (decide (sumR rs = 1) && (!decide ((j : Int) ∈ ps) || decide (cellY (seqD t (rs.map ratD)) (ps.idxOf (j : Int)) = 1))) := by
  unfold rowG
  rw [rowB_seq, hn, List.length_map, decide_eq_true hl]
  have e1 : (rs.map ratD).all partD = true := by
    rw [List.all_map, List.all_eq_true]
    exact fun r _ => rat_part r
  have e2 : (rs.map ratD).map toR = rs := by
    rw [List.map_map, show (toR ∘ ratD) = id from funext toR_rat, List.map_id]
  rw [e1, e2, Bool.true_and, Bool.true_and, Bool.true_and]

section
variable {P : Program} {w : World} {K : PySem.W.Frag} {mg : Str → Option Value} {base : Heap}
theorem sc_law_is : FnScope nm_law_is ps_law_is (defScope s_law_is) := ⟨rfl, rfl, rfl, by decide +kernel, rfl, by decide +kernel, by decide +kernel⟩
theorem ok_law_is {f : Addr} {fd : FuncData} (T : Txt mg) (Ds : Defs K mg) (D : Dfn K mg "_law_is" s_law_is ps_law_is f fd) : FnOk P w K mg base CX0 4 f fd ps_law_is (spD K fLIs) := by
  obtain ⟨f_law_is_fraction, fd_law_is_fraction, D_law_is_fraction⟩ := Ds.d_law_is_fraction
  have G_law_is_fraction := ok_law_is_fraction (P := P) (w := w) (base := base) T Ds D_law_is_fraction
  obtain ⟨f_law_plus, fd_law_plus, D_law_plus⟩ := Ds.d_law_plus
  have G_law_plus := ok_law_plus (P := P) (w := w) (base := base) T Ds D_law_plus
  refine D.F.ok sc_law_is (fun vs H Q E h => ?_) (fun cdv A outer s H vs Q E hr h => ?_)
  · obtain ⟨S, B, ds, d, w, hd, ⟨n, ts, ps, x, rfl, _⟩, _⟩ := h
    exact DqAll.length hd
  · obtain ⟨S, B, ds, d, w, hd, ⟨n, ts, ps, x, rfl, hT, hP, hk6, rfl⟩, q⟩ := h
    have hr_law_is_fraction := hr.mono (show 2 ≤ 3 by decide)
    have hr_law_plus := hr.mono (show 3 ≤ 3 by decide)
    obtain ⟨v1, v2, v3, rfl, h1, h2, h3⟩ := args3 hd
    refine ⟨_, (pss_cons (ps_if (PW.pt (pw_or (pt_not (pt_val (pe_callB call_isiT (by rfl) T.m_isinstance (by decide +kernel) (pa_cons (pv 2) (pa_cons (pe_tup (pa_cons (pe_bltn (v := .ty "list") (by rfl) T.m_list (by decide +kernel) rfl) (pa_cons (pe_bltn (v := .ty "tuple") (by rfl) T.m_tuple (by decide +kernel) rfl) pa_nil))) pa_nil))))) (pw_or1 (pt_cmpR op_ne (pe_callB call_len_seq (by rfl) T.m_len (by decide +kernel) (pa_cons (pv 2) pa_nil)) (pe_ix ix_tup (pv 0) pe_int (fun _ _ => rfl)) (nomark _)))))
        (pss_one (ps_ret pe_bl))
        pss_nil)
      (pss_cons (ps_for PassesOwn.never rfl (pi_or (pi_enumO false (by rfl) T.m_enumerate (pa_cons (pv 2) pa_nil)) (pi_enumO true (by rfl) T.m_enumerate (pa_cons (pv 2) pa_nil))) (pg_tup (by rfl) (pgs_cons (pg_name (i := 3) sc_law_is.nd rfl (Or.inl rfl)) (pgs_cons (pg_name (i := 4) sc_law_is.nd rfl (Or.inl rfl)) pgs_nil)))
        (pss_cons (ps_if (PW.pt (pw_or (pt_not (pt_val (pe_callB call_isiT (by rfl) T.m_isinstance (by decide +kernel) (pa_cons (pv 4) (pa_cons (pe_tup (pa_cons (pe_bltn (v := .ty "list") (by rfl) T.m_list (by decide +kernel) rfl) (pa_cons (pe_bltn (v := .ty "tuple") (by rfl) T.m_tuple (by decide +kernel) rfl) pa_nil))) pa_nil))))) (pw_or1 (pt_cmpR op_ne (pe_callB call_len_seq (by rfl) T.m_len (by decide +kernel) (pa_cons (pv 4) pa_nil)) (pe_callB call_len_seq (by rfl) T.m_len (by decide +kernel) (pa_cons (pv 1) pa_nil)) (nomark _)))))
          (pss_one (ps_ret pe_bl))
          pss_nil)
        (pss_cons (ps_if (pt_not (pt_val (pe_callB (cr_all rfl) (by rfl) T.m_all (by decide +kernel) (pa_cons (pe_lc (own := [("_law_part", 6)]) (g := (gName 6)) (by rfl) sc_law_is.nd (pi_or (pi_list (pv 4)) (pi_tup (pv 4))) (blkOk_by (own := [("_law_part", 6)]) (N := nm_law_is) (sc := defScope s_law_is) (by decide +kernel)) (fun _ _ _ _ _ => (pg_name (i := 6) sc_law_is.nd rfl (Or.inl rfl))) (fun _ _ _ _ _ => pts_nil) (fun _ _ _ _ _ => (pe_and (pe_call G_law_is_fraction hr_law_is_fraction (by rfl) D_law_is_fraction.g D_law_is_fraction.F.kp D_law_is_fraction.b .nil pass0 (pa_cons (pv 6) pa_nil)) (pe_one (pe_cmpR op_ge (pe_ix (r := rIxT K) ix_tup (pv 6) pe_int (fun _ _ => rfl)) pe_int (nomark _)))))) pa_nil))))
          (pss_one (ps_ret pe_bl))
          pss_nil)
        (pss_cons (ps_set (i := 5) sc_law_is.nd rfl (Or.inl rfl) (pe_tup (pa_cons pe_int (pa_cons pe_int pa_nil))))
        (pss_cons (ps_for PassesOwn.never rfl (pi_or (pi_list (pv 4)) (pi_tup (pv 4))) (pg_name (i := 6) sc_law_is.nd rfl (Or.inl rfl))
          (pss_one (ps_set (i := 5) sc_law_is.nd rfl (Or.inl rfl) (pe_call G_law_plus hr_law_plus (by rfl) D_law_plus.g D_law_plus.F.kp D_law_plus.b .nil pass0 (pa_cons (pv 5) (pa_cons (pv 6) pa_nil))))))
        (pss_one (ps_if (PW.pt (pw_or (pt_cmpR (op_neD hr.units) (pv 5) (pe_tup (pa_cons pe_int (pa_cons pe_int pa_nil))) (nomark _)) (pw_or1 (PW.pt (pw_and (pt_cmpR op_in_seq (pv 3) (pv 1) (by rfl)) (pw_and1 (pt_cmpR (op_neD hr.units) (pe_ix ix_seq (pv 4) (pe_bm PySem.F.plainAttrs_list PySem.F.slot_list_index PySem.F.type_list_index mt_index (pv 1) (pa_cons (pv 3) pa_nil)) (fun _ _ => rfl)) (pe_tup (pa_cons pe_int (pa_cons pe_int pa_nil))) (nomark _))))))))
          (pss_one (ps_ret pe_bl))
          pss_nil)))))))
      (pss_one (ps_ret pe_bl)))), ?_⟩
    refine fn_pure w (sl_some (s := .d _) h1 (sl_some (s := .d _) h2 (sl_some (s := .d _) h3 (sl_none (sl_none (sl_none (sl_none sl_nil))))))) rfl ?_ q
    rcases th_cases hT.nd with ⟨t, xs, rfl⟩ | ⟨z0, z1, z2⟩
    · have hl := len_tup t hT
      have hk := kit_seqT t xs
      refine s_seq (s_if (b := !decide ((xs.length : Int) = n)) (nb_is (nb_or (nb_not (nb_B (n_isi2 (n_rd rfl rfl) hk.1 hk.2))) fun _ => nb_test (n_neI (n_len (t := t) (n_rd rfl rfl)) (n_ixT (d := .int n) (n_rd rfl rfl) n_int rfl))) (by cases t <;> rfl)) (fun h0 => ?_) (fun h0 => s_next ?_))
      · rw [Bool.not_eq_true'] at h0
        refine s_ret n_bl ?_
        rw [sharesB_seq, h0, Bool.false_and]
        rfl
      rw [Bool.not_eq_false'] at h0
      have hn := of_decide_eq_true h0
      refine s_seq (s_for xs.zipIdx (fun p => .tuple [.int (p.2 : Nat), p.1]) (nw_enumS (t := t) (xs := xs) (e1 := id) (na_cons (by rw [List.map_id]; exact n_rd rfl rfl) na_nil)) (fun i Γ' => (∃ x3 x4 x5 x6 : Option Sl, Γ' = [some (.d (webD n ts)), some (.d (.list (ps.map .int))), some (.d (seqD t xs)), x3, x4, x5, x6]) ∧ ∀ (j : Nat) y, j < i → xs[j]? = some y → rowG ps j y = true) ⟨⟨none, none, none, none, rfl⟩, fun j y h => by omega⟩ (fun i a Γ' ha hI => ?_) (fun Γ' hI => ?_))
      · obtain ⟨⟨x3, x4, x5, x6, rfl⟩, hI⟩ := hI
        rw [List.getElem?_zipIdx] at ha
        obtain ⟨y, hy, hay⟩ := Option.map_eq_some_iff.mp ha
        rw [Nat.zero_add] at hay
        subst hay
        have hTy : Th 2 y := hl.2 y (List.mem_of_getElem? hy)
        refine ⟨_, gt_tup rfl (gts_cons gt_1 (gts_cons gt_1 gts_nil)), ?_⟩
        have stop : rowG ps i y = false → PyData.bool false = PyData.bool (sharesB n ps (seqD t xs)) := fun z => by rw [shares_bad hy z]
        rcases th_cases hTy.nd with ⟨t2, ys, rfl⟩ | ⟨z0, z1, z2⟩
        · have hl2 := len_tup t2 hTy
          have hk2 := kit_seqT t2 ys
          refine s_seq (s_if (b := !decide (ys.length = ps.length)) (nb_is (nb_or (nb_not (nb_B (n_isi2 (n_rd rfl rfl) hk2.1 hk2.2))) fun _ => nb_test (n_neI (n_len (t := t2) (n_rd rfl rfl)) (n_len (t := false) (ds := ps.map PyData.int) (n_rd rfl rfl)))) ?_) (fun h3 => ?_) (fun h3 => s_next ?_))
          · rw [List.length_map]
            have e : decide ((ys.length : Int) = (ps.length : Int)) = decide (ys.length = ps.length) := by
              by_cases z : ys.length = ps.length
              · rw [decide_eq_true z, decide_eq_true (by omega)]
              · rw [decide_eq_false z, decide_eq_false (by omega)]
            rw [e]
            cases t2 <;> rfl
          · rw [Bool.not_eq_true'] at h3
            refine s_ret n_bl (stop ?_)
            unfold rowG
            rw [rowB_seq, h3, Bool.false_and, Bool.false_and, Bool.false_and]
          rw [Bool.not_eq_false', decide_eq_true_iff] at h3
          refine s_seq (s_if (b := !ys.all fun y => partD y && nonD y) (nb_not (nb_B (n_is (n_all (bs := ys.map fun y => partD y && nonD y) (n_is (n_lc1 ys id (fun y => .bool (partD y && nonD y)) (nw_seq (t := t2) (by rw [List.map_id]; exact n_rd rfl rfl)) (by omega) fun y hy => nt (gn_1 (by decide)) nb_yes fun _ => n_and (n_law_is_fraction (na_cons (n_rd rfl rfl) na_nil) (hl2.2 y hy)) fun z => n_cmp (i := (toR y).num) (n_ixT (ds := [.int (toR y).num, .int ((toR y).den : Int)]) (n_is (n_rd rfl rfl) (part_rat z)) n_int rfl) n_int) (by rw [List.map_map]; rfl))) (by rw [List.all_map]; rfl)))) (fun h5 => ?_) (fun h5 => s_next ?_))
          · rw [Bool.not_eq_true', all_and2] at h5
            refine s_ret n_bl (stop ?_)
            unfold rowG
            rw [rowB_seq]
            rcases Bool.and_eq_false_iff.mp h5 with z | z
            · rw [z, Bool.and_false, Bool.false_and, Bool.false_and]
            · rw [z, Bool.false_and, Bool.and_false, Bool.false_and]
          rw [Bool.not_eq_false', all_and2, Bool.and_eq_true] at h5
          obtain ⟨hall, hnon⟩ := h5
          have hpb := th_parts (n := 0) (xs := ys) hl2.2 hall
          obtain ⟨rs, hrs⟩ : ∃ rs, rs = ys.map toR := ⟨_, rfl⟩
          have hx : ys = rs.map ratD := by rw [hrs]; exact parts_map hall
          rw [← hrs] at hpb
          clear hrs
          subst hx
          rw [List.length_map] at h3
          have hr6 : rs.length ≤ 6 := by omega
          have hsum : ∀ k, k ≤ rs.length → RBit (sumR (rs.take k)) 4000 := by
            obtain ⟨L, hL, hL2, hF⟩ := small_FB rs hpb
            intro k hk
            have h := FB.sum (rs.take k) fun r hr => hF r (List.mem_of_mem_take hr)
            refine h.bit hL ?_
            have hV : (rs.take k).length * 2 ^ 100 + 1 ≤ 2 ^ 104 := Nat.le_trans (Nat.succ_le_succ (Nat.mul_le_mul_right _ (show (rs.take k).length ≤ 7 by rw [List.length_take]; omega))) (by decide)
            have hL3 : L ≤ 2 ^ (100 * 6) := Nat.le_trans hL2 (by rw [← Nat.pow_mul]; exact Nat.pow_le_pow_right (by decide) (Nat.mul_le_mul_left _ hr6))
            exact Nat.lt_of_le_of_lt (Nat.mul_le_mul hV hL3) (by rw [← Nat.pow_add]; exact Nat.pow_lt_pow_right (by decide) (by decide))
          refine s_seq (s_asg (n_is (d' := ratD (sumR (rs.take 0))) (n_tup (na_cons n_int (na_cons n_int na_nil)) (by decide)) rfl) ?_)
          refine s_seq (s_for rs ratD (nw_seq (t := t2) (n_rd rfl rfl)) (fun k Γ' => ∃ x6 : Option Sl, Γ' = [some (.d (webD n ts)), some (.d (.list (ps.map .int))), some (.d (seqD t xs)), some (.d (.int (i : Nat))), some (.d (seqD t2 (rs.map ratD))), some (.d (ratD (sumR (rs.take k)))), x6]) ⟨_, rfl⟩ (fun k r Γ' hr hJ => ?_) (fun Γ' hJ => ?_))
          · obtain ⟨x6, rfl⟩ := hJ
            have hk := (List.getElem?_eq_some_iff.mp hr).1
            refine ⟨_, gt_1, s_asg (n_is (d' := ratD (sumR (rs.take (k + 1)))) (n_law_plus (a := (sumR (rs.take k)).num) (b := ((sumR (rs.take k)).den : Int)) (c := r.num) (e := (r.den : Int)) (na_cons (n_rd rfl rfl) (na_cons (n_rd rfl rfl) na_nil)) (den_pos _) (den_pos _) (hsum k (by omega)).n (hsum k (by omega)).d ((hpb r (List.mem_of_getElem? hr)).mono (by decide)).n ((hpb r (List.mem_of_getElem? hr)).mono (by decide)).d) (by rw [Rat.num_divInt_den, Rat.num_divInt_den, sumR_take hr])) ⟨_, rfl⟩⟩
          obtain ⟨x6, rfl⟩ := hJ
          rw [List.take_length]
          have hgr := rowG_rat (ps := ps) (j := i) (t := t2) h3 hnon
          refine s_if (b := !decide (sumR rs = 1) || (decide ((i : Int) ∈ ps) && !decide (cellY (seqD t2 (rs.map ratD)) (ps.idxOf (i : Int)) = 1))) (nb_or (nb_test (n_is (n_neD (n_rd rfl rfl) (n_tup (na_cons n_int (na_cons n_int na_nil)) (by decide)) rfl rfl) (by rw [eqv_rat1']))) fun _ => nb_and (nb_test (n_in (t := false) (neg := false) (n_rd rfl rfl) (n_rd rfl rfl))) fun z => nb_test ?_) (fun h10 => ?_) (fun h10 => s_next ?_)
          · replace z := of_decide_eq_true z
            have hi := List.idxOf_lt_length_of_mem z
            have hil : ps.idxOf (i : Int) < rs.length := by omega
            have hat : (rs.map ratD)[ps.idxOf (i : Int)]? = some (ratD (cellY (seqD t2 (rs.map ratD)) (ps.idxOf (i : Int)))) := by
              unfold cellY
              rw [rowXs_seq]
              show _ = some (ratD (toR ((rs.map ratD).getD _ .none)))
              rw [List.getD_eq_getElem?_getD, List.getElem?_map, List.getElem?_eq_getElem hil]
              show some (ratD rs[ps.idxOf (i : Int)]) = some (ratD (toR (ratD rs[ps.idxOf (i : Int)])))
              rw [toR_rat]
            exact n_is (n_neD (n_ix (t := t2) (ds := rs.map ratD) (n_rd rfl rfl) (n_index (n_rd rfl rfl) (n_rd rfl rfl) z) (atI_at (by omega) (by rw [Int.toNat_natCast]; exact hat))) (n_tup (na_cons n_int (na_cons n_int na_nil)) (by decide)) rfl rfl) (by rw [eqv_rat1'])
          · refine s_ret n_bl (stop ?_)
            rw [hgr]
            revert h10
            cases decide (sumR rs = 1) <;> cases decide ((i : Int) ∈ ps) <;> cases decide (cellY (seqD t2 (rs.map ratD)) (ps.idxOf (i : Int)) = 1) <;> decide
          · refine ⟨⟨_, _, _, _, rfl⟩, fun j y hj hy2 => ?_⟩
            rcases Nat.lt_succ_iff_lt_or_eq.mp hj with hj | rfl
            · exact hI j y hj hy2
            · rw [hy] at hy2
              cases hy2
              rw [hgr]
              revert h10
              cases decide (sumR rs = 1) <;> cases decide ((j : Int) ∈ ps) <;> cases decide (cellY (seqD t2 (rs.map ratD)) (ps.idxOf (j : Int)) = 1) <;> decide
        · have hk2 := kit_any y hTy.nd
          rw [z1, z2] at hk2
          refine s_seq (s_if (b := true) (nb_or (b' := true) (nb_not (nb_B (n_isi2 (n_rd rfl rfl) hk2.2.1 hk2.1))) fun z => by cases z) (fun h0 => ?_) fun h0 => by cases h0)
          refine s_ret n_bl (stop ?_)
          unfold rowG rowB
          rw [z0]
          rfl
      · obtain ⟨⟨x3, x4, x5, x6, rfl⟩, hI⟩ := hI
        refine s_ret n_bl ?_
        rw [shares_good hP hn fun i y hy => hI i y (by rw [List.length_zipIdx]; exact (List.getElem?_eq_some_iff.mp hy).1) hy]
    · have hk := kit_any x hT.nd
      rw [z1, z2] at hk
      refine s_seq (s_if (b := true) (nb_or (b' := true) (nb_not (nb_B (n_isi2 (n_rd rfl rfl) hk.2.1 hk.1))) fun z => by cases z) (fun h0 => ?_) fun h0 => by cases h0)
      refine s_ret n_bl ?_
      unfold sharesB
      rw [z0]
end
end Pw

/-! ## K24_is_number -/
namespace Pw
open PySem L2 Evl
def isNumD (x : PyData) (l : Int) : Bool := match x with
  | .int i => decide (l ≤ i)
  | _ => false
def fIsNum (ds : List PyData) (d : PyData) : Prop := ∃ x l, ds = [x, .int l] ∧ (∀ kvs, x ≠ .dict kvs) ∧ d = .bool (isNumD x l)
theorem kit_num (x : PyData) (h : ∀ kvs, x ≠ .dict kvs) : kitB (tyN x) "int" = some (tyN x == "int" || tyN x == "bool") ∧ kitB (tyN x) "bool" = some (tyN x == "bool") := by
  match x with
  | .none => exact (by decide +kernel : kitB "NoneType" "int" = some ("NoneType" == "int" || "NoneType" == "bool") ∧ kitB "NoneType" "bool" = some ("NoneType" == "bool"))
  | .bool _ => exact (by decide +kernel : kitB "bool" "int" = some ("bool" == "int" || "bool" == "bool") ∧ kitB "bool" "bool" = some ("bool" == "bool"))
  | .int _ => exact (by decide +kernel : kitB "int" "int" = some ("int" == "int" || "int" == "bool") ∧ kitB "int" "bool" = some ("int" == "bool"))
  | .str _ => exact (by decide +kernel : kitB "str" "int" = some ("str" == "int" || "str" == "bool") ∧ kitB "str" "bool" = some ("str" == "bool"))
  | .list _ => exact (by decide +kernel : kitB "list" "int" = some ("list" == "int" || "list" == "bool") ∧ kitB "list" "bool" = some ("list" == "bool"))
  | .tuple _ => exact (by decide +kernel : kitB "tuple" "int" = some ("tuple" == "int" || "tuple" == "bool") ∧ kitB "tuple" "bool" = some ("tuple" == "bool"))
  | .dict kvs => exact absurd rfl (h kvs)
theorem num_int {x : PyData} (h : (tyN x == "int") = true) : ∃ i, x = .int i := by
  match x, h with
  | .int i, _ => exact ⟨i, rfl⟩
  | .none, h => exact absurd h (by decide)
  | .bool _, h => exact absurd h (show ¬ ("bool" == "int") = true by decide)
  | .str _, h => exact absurd h (show ¬ ("str" == "int") = true by decide)
  | .list _, h => exact absurd h (show ¬ ("list" == "int") = true by decide)
  | .tuple _, h => exact absurd h (show ¬ ("tuple" == "int") = true by decide)
  | .dict _, h => exact absurd h (show ¬ ("dict" == "int") = true by decide)
theorem num_no {x : PyData} (l : Int) (h : (tyN x == "int") = false) : isNumD x l = false := by
  match x, h with
  | .int i, h => exact absurd h (show ¬ ("int" == "int") = false by decide)
  | .none, _ => rfl
  | .bool _, _ => rfl
  | .str _, _ => rfl
  | .list _, _ => rfl
  | .tuple _, _ => rfl
  | .dict _, _ => rfl
section
variable {P : Program} {w : World} {K : PySem.W.Frag} {mg : Str → Option Value} {base : Heap}
theorem sc_is_number : FnScope nm_is_number ps_is_number (defScope s_is_number) := ⟨rfl, rfl, rfl, by decide +kernel, rfl, by decide +kernel, by decide +kernel⟩
theorem ok_is_number {f : Addr} {fd : FuncData} (T : Txt mg) (Ds : Defs K mg) (D : Dfn K mg "is_number" s_is_number ps_is_number f fd) : FnOk P w K mg base CX0 1 f fd ps_is_number (spD K fIsNum) := by
  refine D.F.ok sc_is_number (fun vs H Q E h => ?_) (fun cdv A outer s H vs Q E hr h => ?_)
  · obtain ⟨S, B, ds, d, w, hd, ⟨x, l, rfl, _⟩, _⟩ := h
    exact DqAll.length hd
  · obtain ⟨S, B, ds, d, w, hd, ⟨x, l, rfl, hx, rfl⟩, q⟩ := h
    obtain ⟨v1, v2, rfl, h1, h2⟩ := two_args hd
    have hk := kit_num x hx
    refine ⟨_, (pss_one (ps_ret (pe_and (pe_callB call_isi (by rfl) T.m_isinstance (by decide +kernel) (pa_cons (pv 0) (pa_cons (pe_bltn (v := .ty "int") (by rfl) T.m_int (by decide +kernel) rfl) pa_nil))) (pe_and (pe_not (pe_callB call_isi (by rfl) T.m_isinstance (by decide +kernel) (pa_cons (pv 0) (pa_cons (pe_bltn (v := .ty "bool") (by rfl) T.m_bool (by decide +kernel) rfl) pa_nil)))) (pe_one (pe_cmpR op_ge (pv 0) (pv 1) (nomark _))))))), ?_⟩
    cases hi : (tyN x == "int") with
    | true =>
      obtain ⟨i, rfl⟩ : ∃ i, x = .int i := by
        exact num_int hi
      exact st_ret w (ev_and (ev_isi (ev_var rfl h1) hk.1) fun _ => ev_and (ev_not (ev_isi (ev_var rfl h1) hk.2)) fun _ => ev_cmp (ev_var rfl h1) (ev_var rfl h2)) fun v B' H' e eB w' r => q v B' H' e eB w' r
    | false =>
      have hn : isNumD x l = false := by
        exact num_no l hi
      rw [hn] at q
      refine st_ret w (ev_is (d' := .bool false) (ev_and (ev_isi (ev_var rfl h1) hk.1) fun hb => ev_and (c := false) (ev_not (ev_isi (ev_var rfl h1) hk.2)) fun hb2 => ?_) ?_) fun v B' H' e eB w' r => q v B' H' e eB w' r
      · rw [hi, Bool.false_or] at hb
        rw [hb] at hb2
        cases hb2
      · rw [hi, Bool.false_or]
        cases (tyN x == "bool") <;> rfl
end
end Pw

/-! ## K24_common -/
namespace Pw
open PySem L2 Evl
def fCommon (ds : List PyData) (d : PyData) : Prop := ∃ a b : Int, ds = [.int a, .int b] ∧ d = .int (Int.gcd a b : Nat)
theorem n_common {K : PySem.W.Frag} {Γ : En0} {tA : TA} {E : XK} {a b : Int} (h : EA K tA Γ [.int a, .int b]) : EE K (tCall (spD K fCommon) [] E tA) Γ (.int (Int.gcd a b : Nat)) := n_call h ⟨a, b, rfl, rfl⟩

section
variable {P : Program} {w : World} {K : PySem.W.Frag} {mg : Str → Option Value} {base : Heap}
theorem sc_common : FnScope nm_common ps_common (defScope s_common) := ⟨rfl, rfl, rfl, by decide +kernel, rfl, by decide +kernel, by decide +kernel⟩
theorem ok_common {f : Addr} {fd : FuncData} (T : Txt mg) (Ds : Defs K mg) (D : Dfn K mg "common" s_common ps_common f fd) : FnOk P w K mg base CX0 1 f fd ps_common (spD K fCommon) := by
  refine D.F.ok sc_common (fun vs H Q E h => ?_) (fun cdv A outer s H vs Q E hr h => ?_)
  · obtain ⟨S, B, ds, d, w, hd, ⟨a, b, rfl, _⟩, _⟩ := h
    exact DqAll.length hd
  · obtain ⟨S, B, ds, d, w, hd, ⟨a, b, rfl, rfl⟩, q⟩ := h
    obtain ⟨v1, v2, rfl, h1, h2⟩ := two_args hd
    refine ⟨_, (pss_cons (ps_par (i := 0) (j := 1) (by rfl) sc_common.nd rfl rfl (by decide) rfl rfl (pa_cons (pe_callB call_abs (by rfl) T.m_abs (by decide +kernel) (pa_cons (pv 0) pa_nil)) (pa_cons (pe_callB call_abs (by rfl) T.m_abs (by decide +kernel) (pa_cons (pv 1) pa_nil)) pa_nil)) (by rfl))
      (pss_cons (ps_while PassesOwn.never (pt_cmpR op_gt (pv 1) pe_int (nomark _))
        (pss_one (ps_par (i := 0) (j := 1) (by rfl) sc_common.nd rfl rfl (by decide) rfl rfl (pa_cons (pv 1) (pa_cons (pe_op op_mod (pv 0) (pv 1)) pa_nil)) (by rfl))))
      (pss_one (ps_ret (pv 0))))), ?_⟩
    refine fn_pure w (sl_some (s := .d _) h1 (sl_some (s := .d _) h2 sl_nil)) rfl ?_ q
    refine s_seq (s_par (n_abs (n_rd rfl rfl)) (n_abs (n_rd rfl rfl)) ?_)
    refine s_seq (s_while (W := fun m Γ' => ∃ x y : Int, Γ' = [some (.d (.int x)), some (.d (.int y))] ∧ 0 ≤ x ∧ 0 ≤ y ∧ m = y.toNat ∧ Int.gcd x y = Int.gcd a b) ⟨_, _, _, rfl, ?_, ?_, rfl, ?_⟩ (fun m Γ' hW => ?_))
    · split <;> omega
    · split <;> omega
    · have e : ∀ i : Int, (if i < 0 then -i else i).natAbs = i.natAbs := fun i => by split <;> omega
      unfold Int.gcd
      rw [e, e]
    obtain ⟨x, y, rfl, hx, hy, rfl, hg⟩ := hW
    refine ⟨_, (nb_test (n_cmp (n_rd rfl rfl) n_int)), fun hb => ?_, fun hb => ?_⟩
    · replace hb := of_decide_eq_true hb
      refine s_par (n_rd rfl rfl) (n_mod (n_rd rfl rfl) (n_rd rfl rfl) ?_) ?_
      · omega
      · have h1 := Int.emod_nonneg x (show y ≠ 0 by omega)
        have h2 := Int.emod_lt_of_pos x (show 0 < y by omega)
        exact ⟨_, by omega, y, x % y, rfl, hy, h1, rfl, (gcd_step x y).trans hg⟩
    · replace hb := of_decide_eq_false hb
      have hy0 : y = 0 := by omega
      subst hy0
      refine s_ret (n_rd rfl rfl) ?_
      show PyData.int x = _
      rw [← hg, Int.gcd_zero_right]
      congr 1
      omega
end
end Pw

/-! ## K24_is_part -/
namespace Pw
open PySem L2 Evl
def fIsPart (ds : List PyData) (d : PyData) : Prop := ∃ x, ds = [x] ∧ Th 1 x ∧ d = .bool (partD x)
theorem n_is_part {K : PySem.W.Frag} {Γ : En0} {tA : TA} {E : XK} {x : PyData} (h : EA K tA Γ [x]) (hT : Th 1 x) : EE K (tCall (spD K fIsPart) [] E tA) Γ (.bool (partD x)) := n_call h ⟨x, rfl, hT, rfl⟩
theorem isNum_of {x : PyData} {l : Int} (h : isNumD x l = true) : ∃ i, x = .int i ∧ l ≤ i := by
  unfold isNumD at h
  split at h
  · exact ⟨_, rfl, of_decide_eq_true h⟩
  · cases h

section
variable {P : Program} {w : World} {K : PySem.W.Frag} {mg : Str → Option Value} {base : Heap}
theorem sc_is_part : FnScope nm_is_part ps_is_part (defScope s_is_part) := ⟨rfl, rfl, rfl, by decide +kernel, rfl, by decide +kernel, by decide +kernel⟩
theorem ok_is_part {f : Addr} {fd : FuncData} (T : Txt mg) (Ds : Defs K mg) (D : Dfn K mg "is_part" s_is_part ps_is_part f fd) : FnOk P w K mg base CX0 2 f fd ps_is_part (spD K fIsPart) := by
  obtain ⟨f_is_number, fd_is_number, D_is_number⟩ := Ds.d_is_number
  have G_is_number := ok_is_number (P := P) (w := w) (base := base) T Ds D_is_number
  obtain ⟨f_common, fd_common, D_common⟩ := Ds.d_common
  have G_common := ok_common (P := P) (w := w) (base := base) T Ds D_common
  refine D.F.ok sc_is_part (fun vs H Q E h => ?_) (fun cdv A outer s H vs Q E hr h => ?_)
  · obtain ⟨S, B, ds, d, w, hd, ⟨x, rfl, _⟩, _⟩ := h
    exact DqAll.length hd
  · obtain ⟨S, B, ds, d, w, hd, ⟨x, rfl, hT, rfl⟩, q⟩ := h
    have hr_is_number := hr.mono (show 1 ≤ 1 by decide)
    have hr_common := hr.mono (show 1 ≤ 1 by decide)
    obtain ⟨v1, rfl, h1⟩ := one_arg hd
    refine ⟨_, (pss_cons (ps_if (PW.pt (pw_or (pt_not (pt_val (pe_callB call_isi (by rfl) T.m_isinstance (by decide +kernel) (pa_cons (pv 0) (pa_cons (pe_bltn (v := .ty "tuple") (by rfl) T.m_tuple (by decide +kernel) rfl) pa_nil))))) (pw_or (pt_cmpR op_ne (pe_callB call_len_seq (by rfl) T.m_len (by decide +kernel) (pa_cons (pv 0) pa_nil)) pe_int (nomark _)) (pw_or1 (pt_not (pt_val (pe_call G_is_number hr_is_number (by rfl) D_is_number.g D_is_number.F.kp D_is_number.b .nil pass0 (pa_cons (pe_ix ix_tup (pv 0) pe_int (fun _ _ => rfl)) (pa_cons pe_int pa_nil)))))))))
        (pss_one (ps_ret pe_bl))
        pss_nil)
      (pss_cons (ps_if (PW.pt (pw_or (pt_not (pt_val (pe_callB call_isi (by rfl) T.m_isinstance (by decide +kernel) (pa_cons (pe_ix ix_tup (pv 0) pe_int (fun _ _ => rfl)) (pa_cons (pe_bltn (v := .ty "int") (by rfl) T.m_int (by decide +kernel) rfl) pa_nil))))) (pw_or1 (pt_val (pe_callB call_isi (by rfl) T.m_isinstance (by decide +kernel) (pa_cons (pe_ix ix_tup (pv 0) pe_int (fun _ _ => rfl)) (pa_cons (pe_bltn (v := .ty "bool") (by rfl) T.m_bool (by decide +kernel) rfl) pa_nil)))))))
        (pss_one (ps_ret pe_bl))
        pss_nil)
      (pss_one (ps_ret (pe_cmpR op_eq (pe_call G_common hr_common (by rfl) D_common.g D_common.F.kp D_common.b .nil pass0 (pa_cons (pe_ix ix_tup (pv 0) pe_int (fun _ _ => rfl)) (pa_cons (pe_ix ix_tup (pv 0) pe_int (fun _ _ => rfl)) pa_nil))) pe_int (nomark _)))))), ?_⟩
    refine fn_pure w (sl_some (s := .d _) h1 sl_nil) rfl ?_ q
    have hk := kit_any x hT.nd
    rcases tup_or x with ⟨xs, rfl⟩ | ⟨z1, z2⟩
    · have hl := len_tup true hT
      by_cases h2 : xs.length = 2
      · match xs, h2, hl with
        | [y0, y1], _, ⟨_, hl⟩ =>
          have t0 : Th 0 y0 := hl y0 (by simp)
          have t1 : Th 0 y1 := hl y1 (by simp)
          refine s_seq (s_if (b := !isNumD y1 1) (nb_is (nb_or (nb_not (nb_B (n_isi (n_rd rfl rfl) hk.1))) fun _ => nb_or (nb_test (n_neI (n_len (t := true) (n_rd rfl rfl)) n_int)) fun _ => nb_not (nb_B (n_call (f := fIsNum) (na_cons (n_ixT (d := y1) (n_rd rfl rfl) n_int rfl) (na_cons n_int na_nil)) ⟨y1, 1, rfl, t1.nd, rfl⟩))) rfl) (fun h0 => ?_) (fun h0 => s_next ?_))
          · refine s_ret n_bl ?_
            rw [Bool.not_eq_true'] at h0
            have : partD (.tuple [y0, y1]) = false := by
              rcases int_or y1 with ⟨b, rfl⟩ | ⟨_, z⟩
              · rcases int_or y0 with ⟨a, rfl⟩ | ⟨_, z⟩
                · show (decide (1 ≤ b) && _) = false
                  rw [show decide (1 ≤ b) = false from h0]
                  rfl
                · exact (z _).1
              · exact (z _).2
            rw [this]
          · rw [Bool.not_eq_false'] at h0
            obtain ⟨b, rfl, hb⟩ := isNum_of h0
            have hk0 := kit_any y0 t0.nd
            rcases int_or y0 with ⟨a, rfl⟩ | ⟨z1, z⟩
            · refine s_seq (s_if (b := false) (nb_is (nb_or (nb_not (nb_B (n_isi (n_ixT (d := .int a) (n_rd rfl rfl) n_int rfl) hk0.2.2.1))) fun _ => nb_B (n_isi (n_ixT (d := .int a) (n_rd rfl rfl) n_int rfl) hk0.2.2.2)) (show (!(("int" == "int") || ("int" == "bool")) || ("int" == "bool")) = false by decide)) (fun h0 => by cases h0) (fun h0 => s_next ?_))
              refine s_ret (n_eqI (n_common (na_cons (n_ixT (d := .int a) (n_rd rfl rfl) n_int rfl) (na_cons (n_ixT (d := .int b) (n_rd rfl rfl) n_int rfl) na_nil))) n_int) ?_
              show PyData.bool _ = PyData.bool (decide (1 ≤ b) && decide (Int.gcd a b = 1))
              rw [decide_eq_true hb, Bool.true_and]
              congr 1
              by_cases z : Int.gcd a b = 1
              · rw [z]
                rfl
              · rw [decide_eq_false z, decide_eq_false (by omega)]
            · refine s_seq (s_if (b := true) (nb_is (nb_or (nb_not (nb_B (n_isi (n_ixT (d := y0) (n_rd rfl rfl) n_int rfl) hk0.2.2.1))) fun _ => nb_B (n_isi (n_ixT (d := y0) (n_rd rfl rfl) n_int rfl) hk0.2.2.2)) ?_) (fun h0 => s_ret n_bl ?_) (fun h0 => by cases h0))
              · rw [z1]
                cases (tyN y0 == "bool") <;> rfl
              · rw [(z _).1]
      · have hp : partD (.tuple xs) = false := by
          match xs, h2 with
          | [], _ => rfl
          | [_], _ => cases ‹PyData› <;> rfl
          | _ :: _ :: _ :: _, _ => unfold partD; split; · rename_i e; cases e
                                   · rfl
        refine s_seq (s_if (b := true) (nb_is (nb_or (b' := true) (nb_not (nb_B (n_isi (n_rd rfl rfl) hk.1))) fun _ => nb_is (nb_or (b := true) (b' := true) (nb_test (n_is (n_neI (n_len (t := true) (n_rd rfl rfl)) n_int) ?_)) fun z => by cases z) rfl) (by cases (tyN (PyData.tuple xs) == "tuple") <;> rfl)) (fun h0 => ?_) fun h0 => by cases h0)
        · rw [decide_eq_false (by omega)]
          rfl
        · refine s_ret n_bl ?_
          rw [hp]
    · rw [z1] at hk
      refine s_seq (s_if (b := true) (nb_or (b' := true) (nb_not (nb_B (n_isi (n_rd rfl rfl) hk.1))) fun z => by cases z) (fun h0 => ?_) fun h0 => by cases h0)
      refine s_ret n_bl ?_
      rw [z2]
end
end Pw

/-! ## K24_part_of -/
namespace Pw
open PySem L2 Evl
def fPartOf (ds : List PyData) (d : PyData) : Prop := ∃ a b : Int, ds = [.int a, .int b] ∧ 0 < b ∧ Bit b 8000 ∧ d = ratD (Rat.divInt a b)
theorem n_part_of {K : PySem.W.Frag} {Γ : En0} {tA : TA} {E : XK} {a b : Int} (h : EA K tA Γ [.int a, .int b]) (hb : 0 < b) (hk : Bit b 8000) : EE K (tCall (spD K fPartOf) [] E tA) Γ (ratD (Rat.divInt a b)) := n_call h ⟨a, b, rfl, hb, hk, rfl⟩

section
variable {P : Program} {w : World} {K : PySem.W.Frag} {mg : Str → Option Value} {base : Heap}
theorem sc_part_of : FnScope nm_part_of ps_part_of (defScope s_part_of) := ⟨rfl, rfl, rfl, by decide +kernel, rfl, by decide +kernel, by decide +kernel⟩
theorem ok_part_of {f : Addr} {fd : FuncData} (T : Txt mg) (Ds : Defs K mg) (D : Dfn K mg "part_of" s_part_of ps_part_of f fd) : FnOk P w K mg base CX0 2 f fd ps_part_of (spD K fPartOf) := by
  obtain ⟨f_common, fd_common, D_common⟩ := Ds.d_common
  have G_common := ok_common (P := P) (w := w) (base := base) T Ds D_common
  refine D.F.ok sc_part_of (fun vs H Q E h => ?_) (fun cdv A outer s H vs Q E hr h => ?_)
  · obtain ⟨S, B, ds, d, w, hd, ⟨a, b, rfl, _⟩, _⟩ := h
    exact DqAll.length hd
  · obtain ⟨S, B, ds, d, w, hd, ⟨a, b, rfl, hb, hk, rfl⟩, q⟩ := h
    have hr_common := hr.mono (show 1 ≤ 1 by decide)
    obtain ⟨v1, v2, rfl, h1, h2⟩ := two_args hd
    refine ⟨_, (pss_cons (ps_set (i := 2) sc_part_of.nd rfl (Or.inl rfl) (pe_call G_common hr_common (by rfl) D_common.g D_common.F.kp D_common.b .nil pass0 (pa_cons (pv 0) (pa_cons (pv 1) pa_nil))))
      (pss_cons (ps_if (pt_cmpR op_lt (pv 1) pe_int (nomark _))
        (pss_one (ps_set (i := 2) sc_part_of.nd rfl (Or.inl rfl) (pe_un un_neg (pv 2))))
        pss_nil)
      (pss_one (ps_ret (pe_tup (pa_cons (pe_op op_fdivW (pv 0) (pv 2)) (pa_cons (pe_op op_fdivW (pv 1) (pv 2)) pa_nil))))))), ?_⟩
    refine fn_pure w (sl_some (s := .d _) h1 (sl_some (s := .d _) h2 (sl_none sl_nil))) rfl ?_ q
    have hg := gcd_pos (a := a) hb
    refine s_seq (s_asg (n_common (na_cons (n_rd rfl rfl) (na_cons (n_rd rfl rfl) na_nil))) ?_)
    refine s_seq (s_if (nb_test (n_cmp (n_rd rfl rfl) n_int)) (fun h1 => ?_) (fun h1 => s_next ?_))
    · exact absurd (of_decide_eq_true h1) (by omega)
    refine s_ret (n_tup (na_cons (n_div (n_rd rfl rfl) (n_rd rfl rfl) ?_) (na_cons (n_div (n_rd rfl rfl) (n_rd rfl rfl) ?_) na_nil)) (Nat.le_of_ble_eq_true rfl)) ?_
    · exact divW' hg (gcd_bit hb hk)
    · exact divW' hg (gcd_bit hb hk)
    · exact (ratD_divInt hb).symm
end
end Pw

/-! ## K24_added -/
namespace Pw
open PySem L2 Evl
def fAdded (ds : List PyData) (d : PyData) : Prop := ∃ r s : Rat, ds = [ratD r, ratD s] ∧ RBit r 4000 ∧ RBit s 4000 ∧ d = ratD (r + s)
theorem n_added {K : PySem.W.Frag} {Γ : En0} {tA : TA} {E : XK} {r s : Rat} (h : EA K tA Γ [ratD r, ratD s]) (hr : RBit r 4000) (hs : RBit s 4000) : EE K (tCall (spD K fAdded) [] E tA) Γ (ratD (r + s)) := n_call h ⟨r, s, rfl, hr, hs, rfl⟩

section
variable {P : Program} {w : World} {K : PySem.W.Frag} {mg : Str → Option Value} {base : Heap}
theorem sc_added : FnScope nm_added ps_added (defScope s_added) := ⟨rfl, rfl, rfl, by decide +kernel, rfl, by decide +kernel, by decide +kernel⟩
theorem ok_added {f : Addr} {fd : FuncData} (T : Txt mg) (Ds : Defs K mg) (D : Dfn K mg "added" s_added ps_added f fd) : FnOk P w K mg base CX0 3 f fd ps_added (spD K fAdded) := by
  obtain ⟨f_part_of, fd_part_of, D_part_of⟩ := Ds.d_part_of
  have G_part_of := ok_part_of (P := P) (w := w) (base := base) T Ds D_part_of
  refine D.F.ok sc_added (fun vs H Q E h => ?_) (fun cdv A outer s H vs Q E hr h => ?_)
  · obtain ⟨S, B, ds, d, w, hd, ⟨r, s, rfl, _⟩, _⟩ := h
    exact DqAll.length hd
  · obtain ⟨S, B, ds, d, w, hd, ⟨r, s, rfl, hr1, hs1, rfl⟩, q⟩ := h
    have hr_part_of := hr.mono (show 2 ≤ 2 by decide)
    obtain ⟨v1, v2, rfl, h1, h2⟩ := two_args hd
    refine ⟨_, (pss_one (ps_ret (pe_call G_part_of hr_part_of (by rfl) D_part_of.g D_part_of.F.kp D_part_of.b .nil pass0 (pa_cons (pe_op op_add (pe_op op_mulW (pe_ix ix_tup (pv 0) pe_int (fun _ _ => rfl)) (pe_ix ix_tup (pv 1) pe_int (fun _ _ => rfl))) (pe_op op_mulW (pe_ix ix_tup (pv 1) pe_int (fun _ _ => rfl)) (pe_ix ix_tup (pv 0) pe_int (fun _ _ => rfl)))) (pa_cons (pe_op op_mulW (pe_ix ix_tup (pv 0) pe_int (fun _ _ => rfl)) (pe_ix ix_tup (pv 1) pe_int (fun _ _ => rfl))) pa_nil))))), ?_⟩
    refine fn_pure w (sl_some (s := .d _) h1 (sl_some (s := .d _) h2 sl_nil)) rfl ?_ q
    refine s_ret (n_part_of (na_cons (n_add (n_mul (n_ixT (n_rd rfl rfl) n_int rfl) (n_ixT (n_rd rfl rfl) n_int rfl) ?_) (n_mul (n_ixT (n_rd rfl rfl) n_int rfl) (n_ixT (n_rd rfl rfl) n_int rfl) ?_)) (na_cons (n_mul (n_ixT (n_rd rfl rfl) n_int rfl) (n_ixT (n_rd rfl rfl) n_int rfl) ?_) na_nil)) ?_ ?_) ?_
    · exact mulW hr1.n hs1.d (by decide)
    · exact mulW hs1.n hr1.d (by decide)
    · exact mulW hr1.d hs1.d (by decide)
    · exact Int.mul_pos (den_pos r) (den_pos s)
    · exact hr1.d.mul hs1.d
    · exact congrArg ratD (rat_add r s)
end
end Pw

/-! ## K24_added_up -/
namespace Pw
open PySem L2 Evl
def fAddedUp (ds : List PyData) (d : PyData) : Prop := ∃ (t : Bool) (rs : List Rat) (L V : Nat), ds = [seqD t (rs.map ratD)] ∧ (∀ r ∈ rs, FB L V r) ∧ 0 < L ∧ ((rs.length + 1) * V + 1) * L < 2 ^ 4000 ∧ d = ratD (sumR rs)
theorem n_added_up {K : PySem.W.Frag} {Γ : En0} {tA : TA} {E : XK} {t : Bool} {rs : List Rat} {L V : Nat} (h : EA K tA Γ [seqD t (rs.map ratD)]) (hF : ∀ r ∈ rs, FB L V r) (hL : 0 < L) (hk : ((rs.length + 1) * V + 1) * L < 2 ^ 4000) : EE K (tCall (spD K fAddedUp) [] E tA) Γ (ratD (sumR rs)) := n_call h ⟨t, rs, L, V, rfl, hF, hL, hk, rfl⟩

section
variable {P : Program} {w : World} {K : PySem.W.Frag} {mg : Str → Option Value} {base : Heap}
theorem sc_added_up : FnScope nm_added_up ps_added_up (defScope s_added_up) := ⟨rfl, rfl, rfl, by decide +kernel, rfl, by decide +kernel, by decide +kernel⟩
theorem ok_added_up {f : Addr} {fd : FuncData} (T : Txt mg) (Ds : Defs K mg) (D : Dfn K mg "added_up" s_added_up ps_added_up f fd) : FnOk P w K mg base CX0 4 f fd ps_added_up (spD K fAddedUp) := by
  obtain ⟨f_added, fd_added, D_added⟩ := Ds.d_added
  have G_added := ok_added (P := P) (w := w) (base := base) T Ds D_added
  refine D.F.ok sc_added_up (fun vs H Q E h => ?_) (fun cdv A outer s H vs Q E hr h => ?_)
  · obtain ⟨S, B, ds, d, w, hd, ⟨t, rs, L, V, rfl, _⟩, _⟩ := h
    exact DqAll.length hd
  · obtain ⟨S, B, ds, d, w, hd, ⟨t, rs, L, V, rfl, hF, hL, hk, rfl⟩, q⟩ := h
    have hr_added := hr.mono (show 3 ≤ 3 by decide)
    obtain ⟨v1, rfl, h1⟩ := one_arg hd
    refine ⟨_, (pss_cons (ps_set (i := 1) sc_added_up.nd rfl (Or.inl rfl) (pe_tup (pa_cons pe_int (pa_cons pe_int pa_nil))))
      (pss_cons (ps_for PassesOwn.never rfl (pi_or (pi_list (pv 0)) (pi_tup (pv 0))) (pg_name (i := 2) sc_added_up.nd rfl (Or.inl rfl))
        (pss_one (ps_set (i := 1) sc_added_up.nd rfl (Or.inl rfl) (pe_call G_added hr_added (by rfl) D_added.g D_added.F.kp D_added.b .nil pass0 (pa_cons (pv 1) (pa_cons (pv 2) pa_nil))))))
      (pss_one (ps_ret (pv 1))))), ?_⟩
    refine fn_pure w (sl_some (s := .d _) h1 (sl_none (sl_none sl_nil))) rfl ?_ q
    have hb : ∀ i, i ≤ rs.length → RBit (sumR (rs.take i)) 4000 := fun i hi => by
      have h := FB.sum (rs.take i) fun r hr => hF r (List.mem_of_mem_take hr)
      refine h.bit hL (Nat.lt_of_le_of_lt (Nat.mul_le_mul_right _ (Nat.succ_le_succ ?_)) hk)
      refine Nat.mul_le_mul_right _ ?_
      rw [List.length_take]
      omega
    have hb1 : ∀ r ∈ rs, RBit r 4000 := fun r hr => (hF r hr).bit hL (Nat.lt_of_le_of_lt (Nat.mul_le_mul_right _ (Nat.succ_le_succ (by rw [Nat.succ_mul]; omega))) hk)
    refine s_seq (s_asg (n_is (d' := ratD (sumR (rs.take 0))) (n_tup (na_cons n_int (na_cons n_int na_nil)) (Nat.le_of_ble_eq_true rfl)) rfl) ?_)
    refine s_seq (s_for rs ratD (nw_seq (n_rd rfl rfl)) (fun i Γ' => ∃ x, Γ' = [some (.d (seqD t (rs.map ratD))), some (.d (ratD (sumR (rs.take i)))), x]) ⟨_, rfl⟩ (fun i a Γ' ha hI => ?_) (fun Γ' hI => ?_))
    · obtain ⟨x, rfl⟩ := hI
      refine ⟨_, gt_1, s_asg (n_is (d' := ratD (sumR (rs.take (i + 1)))) (n_added (na_cons (n_rd rfl rfl) (na_cons (n_rd rfl rfl) na_nil)) ?_ ?_) (by rw [sumR_take ha])) ⟨_, rfl⟩⟩
      · exact hb i (Nat.le_of_lt (List.getElem?_eq_some_iff.mp ha).1)
      · exact hb1 a (List.mem_of_getElem? ha)
    · obtain ⟨x, rfl⟩ := hI
      exact s_ret (n_rd rfl rfl) (by show ratD (sumR (rs.take rs.length)) = _; rw [List.take_length])
end
end Pw

/-! ## K24_is_share_row -/
namespace Pw
open PySem L2 Evl
def fIsShareRow (ds : List PyData) (d : PyData) : Prop := ∃ (x : PyData) (k : Nat), ds = [x, .int (k : Int)] ∧ Th 2 x ∧ k ≤ 6 ∧ d = .bool (rowB k x)
theorem n_is_share_row {K : PySem.W.Frag} {Γ : En0} {tA : TA} {E : XK} {x : PyData} {k : Nat} (h : EA K tA Γ [x, .int (k : Int)]) (hT : Th 2 x) (hk : k ≤ 6) : EE K (tCall (spD K fIsShareRow) [] E tA) Γ (.bool (rowB k x)) := n_call h ⟨x, k, rfl, hT, hk, rfl⟩
theorem bound704 {a b : Nat} (h : a ≤ 2 ^ 104) (g : b ≤ 2 ^ (100 * 6)) : a * b < 2 ^ 4000 := Nat.lt_of_le_of_lt (Nat.mul_le_mul h g) (by rw [← Nat.pow_add]; exact Nat.pow_lt_pow_right (by decide) (by decide))

section
variable {P : Program} {w : World} {K : PySem.W.Frag} {mg : Str → Option Value} {base : Heap}
theorem sc_is_share_row : FnScope nm_is_share_row ps_is_share_row (defScope s_is_share_row) := ⟨rfl, rfl, rfl, by decide +kernel, rfl, by decide +kernel, by decide +kernel⟩
theorem ok_is_share_row {f : Addr} {fd : FuncData} (T : Txt mg) (Ds : Defs K mg) (D : Dfn K mg "is_share_row" s_is_share_row ps_is_share_row f fd) : FnOk P w K mg base CX0 5 f fd ps_is_share_row (spD K fIsShareRow) := by
  obtain ⟨f_is_part, fd_is_part, D_is_part⟩ := Ds.d_is_part
  have G_is_part := ok_is_part (P := P) (w := w) (base := base) T Ds D_is_part
  obtain ⟨f_added_up, fd_added_up, D_added_up⟩ := Ds.d_added_up
  have G_added_up := ok_added_up (P := P) (w := w) (base := base) T Ds D_added_up
  obtain ⟨aW_WHOLE, gW_WHOLE, tW_WHOLE⟩ := Ds.g_WHOLE
  refine D.F.ok sc_is_share_row (fun vs H Q E h => ?_) (fun cdv A outer s H vs Q E hr h => ?_)
  · obtain ⟨S, B, ds, d, w, hd, ⟨x, k, rfl, _⟩, _⟩ := h
    exact DqAll.length hd
  · obtain ⟨S, B, ds, d, w, hd, ⟨x, k, rfl, hT, hk6, rfl⟩, q⟩ := h
    have hr_is_part := hr.mono (show 2 ≤ 4 by decide)
    have hr_added_up := hr.mono (show 4 ≤ 4 by decide)
    obtain ⟨v1, v2, rfl, h1, h2⟩ := two_args hd
    refine ⟨_, (pss_cons (ps_if (PW.pt (pw_or (pt_not (pt_val (pe_callB call_isiT (by rfl) T.m_isinstance (by decide +kernel) (pa_cons (pv 0) (pa_cons (pe_tup (pa_cons (pe_bltn (v := .ty "list") (by rfl) T.m_list (by decide +kernel) rfl) (pa_cons (pe_bltn (v := .ty "tuple") (by rfl) T.m_tuple (by decide +kernel) rfl) pa_nil))) pa_nil))))) (pw_or (pt_cmpR op_ne (pe_callB call_len_seq (by rfl) T.m_len (by decide +kernel) (pa_cons (pv 0) pa_nil)) (pv 1) (nomark _)) (pw_or1 (pt_not (pt_val (pe_callB (cr_all rfl) (by rfl) T.m_all (by decide +kernel) (pa_cons (pe_lc (own := [("part", 2)]) (g := (gName 2)) (by rfl) sc_is_share_row.nd (pi_or (pi_list (pv 0)) (pi_tup (pv 0))) (blkOk_by (own := [("part", 2)]) (N := nm_is_share_row) (sc := defScope s_is_share_row) (by decide +kernel)) (fun _ _ _ _ _ => (pg_name (i := 2) sc_is_share_row.nd rfl (Or.inl rfl))) (fun _ _ _ _ _ => pts_nil) (fun _ _ _ _ _ => (pe_call G_is_part hr_is_part (by rfl) D_is_part.g D_is_part.F.kp D_is_part.b .nil pass0 (pa_cons (pv 2) pa_nil)))) pa_nil))))))))
        (pss_one (ps_ret pe_bl))
        pss_nil)
      (pss_one (ps_ret (pe_and (pe_callB (cr_all rfl) (by rfl) T.m_all (by decide +kernel) (pa_cons (pe_lc (own := [("part", 2)]) (g := (gName 2)) (by rfl) sc_is_share_row.nd (pi_or (pi_list (pv 0)) (pi_tup (pv 0))) (blkOk_by (own := [("part", 2)]) (N := nm_is_share_row) (sc := defScope s_is_share_row) (by decide +kernel)) (fun _ _ _ _ _ => (pg_name (i := 2) sc_is_share_row.nd rfl (Or.inl rfl))) (fun _ _ _ _ _ => pts_nil) (fun _ _ _ _ _ => (pe_cmpR op_ge (pe_ix (r := rIxT K) ix_tup (pv 2) pe_int (fun _ _ => rfl)) pe_int (nomark _)))) pa_nil)) (pe_one (pe_cmpR (op_eqD hr.units) (pe_call G_added_up hr_added_up (by rfl) D_added_up.g D_added_up.F.kp D_added_up.b .nil pass0 (pa_cons (pv 0) pa_nil)) (pe_glob (v := .ref aW_WHOLE) (by rfl) gW_WHOLE rfl) (nomark _))))))), ?_⟩
    refine fn_pure w (sl_some (s := .d _) h1 (sl_some (s := .d _) h2 (sl_none sl_nil))) rfl ?_ q
    rcases th_cases hT.nd with ⟨t, xs, rfl⟩ | ⟨z0, z1, z2⟩
    · have hl := len_tup t hT
      have hk := kit_seqT t xs
      rw [rowB_seq]
      refine s_seq (s_if (b := !(decide (xs.length = k) && xs.all partD)) (nb_is (nb_or (nb_not (nb_B (n_isi2 (n_rd rfl rfl) hk.1 hk.2))) fun _ => nb_or (nb_test (n_neI (n_len (t := t) (n_rd rfl rfl)) (n_rd rfl rfl))) fun _ => nb_not (nb_B (n_all (bs := xs.map partD) (n_is (n_lc1 xs id (fun y => .bool (partD y)) (nw_seq (t := t) (by rw [List.map_id]; exact n_rd rfl rfl)) (by omega) fun y hy => nt (gn_1 (by decide)) nb_yes fun _ => n_is_part (na_cons (n_rd rfl rfl) na_nil) (hl.2 y hy)) (by rw [List.map_map]; rfl))))) ?_) (fun h0 => ?_) (fun h0 => s_next ?_))
      · rw [List.all_map]
        have e : decide ((xs.length : Int) = (k : Int)) = decide (xs.length = k) := by
          by_cases z : xs.length = k
          · rw [decide_eq_true z, decide_eq_true (by omega)]
          · rw [decide_eq_false z, decide_eq_false (by omega)]
        rw [e]
        show (!(!t || t) || (!decide (xs.length = k) || !(xs.all partD))) = _
        cases t <;> cases decide (xs.length = k) <;> cases (xs.all partD) <;> rfl
      · rw [Bool.not_eq_true'] at h0
        refine s_ret n_bl ?_
        rw [h0, Bool.false_and]
      · rw [Bool.not_eq_false'] at h0
        have h1 := h0
        rw [Bool.and_eq_true, decide_eq_true_iff] at h1
        obtain ⟨hlen, hall⟩ := h1
        have hpb := th_parts (n := 0) (xs := xs) hl.2 hall
        obtain ⟨rs, hrs⟩ : ∃ rs, rs = xs.map toR := ⟨_, rfl⟩
        have hx : xs = rs.map ratD := by rw [hrs]; exact parts_map hall
        rw [← hrs] at hpb
        clear hrs
        subst hx
        rw [List.length_map] at hlen
        obtain ⟨L, hL, hL2, hF⟩ := small_FB rs hpb
        refine s_ret (n_and (n_all (bs := rs.map fun r => decide (r.num ≥ 0)) (n_is (n_lc1 rs ratD (fun r => .bool (decide (r.num ≥ 0))) (nw_seq (t := t) (n_rd rfl rfl)) (by omega) fun r hr => nt (gn_1 (by decide)) nb_yes fun _ => n_cmp (n_ixT (d := .int r.num) (n_rd rfl rfl) n_int rfl) n_int) (by rw [List.map_map]; rfl))) fun _ => n_eqW (ns := [1, 1]) tW_WHOLE (n_added_up (t := t) (rs := rs) (L := L) (V := 2 ^ 100) (na_cons (n_rd rfl rfl) na_nil) hF hL ?_) rfl rfl) ?_
        · have hr6 : rs.length ≤ 6 := by omega
          have hV : (rs.length + 1) * 2 ^ 100 + 1 ≤ 2 ^ 104 := Nat.le_trans (Nat.succ_le_succ (Nat.mul_le_mul_right _ (Nat.succ_le_succ hr6))) (by decide)
          have hL3 : L ≤ 2 ^ (100 * 6) := Nat.le_trans hL2 (by rw [← Nat.pow_mul]; exact Nat.pow_le_pow_right (by decide) (Nat.mul_le_mul_left _ hr6))
          exact bound704 hV hL3
        · rw [h0, Bool.true_and]
          congr 1
          rw [List.all_map, List.all_map, eqv_rat1, List.map_map]
          have e1 : (toR ∘ ratD) = id := funext toR_rat
          have e2 : (nonD ∘ ratD) = (id ∘ fun r : Rat => decide (r.num ≥ 0)) := funext fun r => by
            show decide (0 ≤ (toR (ratD r)).num) = _
            rw [toR_rat]
            rfl
          rw [e1, e2, List.map_id]
    · have hk := kit_any x hT.nd
      rw [z1, z2] at hk
      refine s_seq (s_if (b := true) (nb_or (b' := true) (nb_not (nb_B (n_isi2 (n_rd rfl rfl) hk.2.1 hk.1))) fun z => by cases z) (fun h0 => ?_) fun h0 => by cases h0)
      refine s_ret n_bl ?_
      unfold rowB
      rw [z0]
end
end Pw

/-! ## K24_is_shares -/
namespace Pw
open PySem L2 Evl
def fIsShares (ds : List PyData) (d : PyData) : Prop := ∃ (n : Int) (ts : List Tie) (ps : List Int) (x : PyData), ds = [webD n ts, .list (ps.map .int), x] ∧ Th 3 x ∧ PostsOk n ps ∧ ps.length ≤ 6 ∧ d = .bool (sharesB n ps x)
theorem n_is_shares {K : PySem.W.Frag} {Γ : En0} {tA : TA} {E : XK} {n : Int} {ts : List Tie} {ps : List Int} {x : PyData} (h : EA K tA Γ [webD n ts, .list (ps.map .int), x]) (h1 : Th 3 x) (h2 : PostsOk n ps) (h3 : ps.length ≤ 6) : EE K (tCall (spD K fIsShares) [] E tA) Γ (.bool (sharesB n ps x)) := n_call h ⟨n, ts, ps, x, rfl, h1, h2, h3, rfl⟩
theorem rowB_row {k : Nat} {x : PyData} (h : rowB k x = true) : ∃ (t : Bool) (rs : List Rat), x = seqD t (rs.map ratD) ∧ rs.length = k := by
  unfold rowB at h
  split at h
  · rename_i xs e
    rw [Bool.and_eq_true, Bool.and_eq_true, decide_eq_true_iff] at h
    have hx := parts_map h.1.2
    have hs : ∃ t, x = seqD t xs := by
      match x, e with
      | .list _, e => cases e; exact ⟨false, rfl⟩
      | .tuple _, e => cases e; exact ⟨true, rfl⟩
    obtain ⟨t, hs⟩ := hs
    exact ⟨t, xs.map toR, by rw [← hx]; exact hs, by rw [List.length_map]; exact h.1.1⟩
  · cases h
theorem cellR_at {xs : List PyData} {p i : Nat} {t : Bool} {rs : List Rat} (h : xs[p]? = some (seqD t (rs.map ratD))) (hi : i < rs.length) : cellR xs p i = rs[i] := by
  unfold cellR
  rw [List.getD_eq_getElem?_getD, h, Option.getD_some, rowXs_seq]
  show toR ((rs.map ratD).getD i .none) = _
  rw [List.getD_eq_getElem?_getD, List.getElem?_map, List.getElem?_eq_getElem hi]
  exact toR_rat _

section
variable {P : Program} {w : World} {K : PySem.W.Frag} {mg : Str → Option Value} {base : Heap}
theorem sc_is_shares : FnScope nm_is_shares ps_is_shares (defScope s_is_shares) := ⟨rfl, rfl, rfl, by decide +kernel, rfl, by decide +kernel, by decide +kernel⟩
theorem ok_is_shares {f : Addr} {fd : FuncData} (T : Txt mg) (Ds : Defs K mg) (D : Dfn K mg "is_shares" s_is_shares ps_is_shares f fd) : FnOk P w K mg base CX0 6 f fd ps_is_shares (spD K fIsShares) := by
  obtain ⟨f_is_share_row, fd_is_share_row, D_is_share_row⟩ := Ds.d_is_share_row
  have G_is_share_row := ok_is_share_row (P := P) (w := w) (base := base) T Ds D_is_share_row
  obtain ⟨aW_WHOLE, gW_WHOLE, tW_WHOLE⟩ := Ds.g_WHOLE
  refine D.F.ok sc_is_shares (fun vs H Q E h => ?_) (fun cdv A outer s H vs Q E hr h => ?_)
  · obtain ⟨S, B, ds, d, w, hd, ⟨n, ts, ps, x, rfl, _⟩, _⟩ := h
    exact DqAll.length hd
  · obtain ⟨S, B, ds, d, w, hd, ⟨n, ts, ps, x, rfl, hT, hP, hk6, rfl⟩, q⟩ := h
    have hr_is_share_row := hr.mono (show 5 ≤ 5 by decide)
    obtain ⟨v1, v2, v3, rfl, h1, h2, h3⟩ := args3 hd
    refine ⟨_, (pss_cons (ps_if (PW.pt (pw_or (pt_not (pt_val (pe_callB call_isiT (by rfl) T.m_isinstance (by decide +kernel) (pa_cons (pv 2) (pa_cons (pe_tup (pa_cons (pe_bltn (v := .ty "list") (by rfl) T.m_list (by decide +kernel) rfl) (pa_cons (pe_bltn (v := .ty "tuple") (by rfl) T.m_tuple (by decide +kernel) rfl) pa_nil))) pa_nil))))) (pw_or1 (pt_cmpR op_ne (pe_callB call_len_seq (by rfl) T.m_len (by decide +kernel) (pa_cons (pv 2) pa_nil)) (pe_ix ix_tup (pv 0) pe_int (fun _ _ => rfl)) (nomark _)))))
        (pss_one (ps_ret pe_bl))
        pss_nil)
      (pss_cons (ps_if (pt_not (pt_val (pe_callB (cr_all rfl) (by rfl) T.m_all (by decide +kernel) (pa_cons (pe_lc (own := [("row", 3)]) (g := (gName 3)) (by rfl) sc_is_shares.nd (pi_or (pi_list (pv 2)) (pi_tup (pv 2))) (blkOk_by (own := [("row", 3)]) (N := nm_is_shares) (sc := defScope s_is_shares) (by decide +kernel)) (fun _ _ _ _ _ => (pg_name (i := 3) sc_is_shares.nd rfl (Or.inl rfl))) (fun _ _ _ _ _ => pts_nil) (fun _ _ _ _ _ => (pe_call G_is_share_row hr_is_share_row (by rfl) D_is_share_row.g D_is_share_row.F.kp D_is_share_row.b .nil pass0 (pa_cons (pv 3) (pa_cons (pe_callB (r := Pw.rLenS K) call_len_seq (by rfl) T.m_len (by decide +kernel) (pa_cons (pv 1) pa_nil)) pa_nil))))) pa_nil))))
        (pss_one (ps_ret pe_bl))
        pss_nil)
      (pss_one (ps_ret (pe_callB (cr_all rfl) (by rfl) T.m_all (by decide +kernel) (pa_cons (pe_lc (own := [("number", 4), ("post", 5)]) (g := (gTup K 2 (gCons (gName 4) (gCons (gName 5) gNil)))) (by rfl) sc_is_shares.nd (pi_or (pi_enumO false (by rfl) T.m_enumerate (pa_cons (pv 1) pa_nil)) (pi_enumO true (by rfl) T.m_enumerate (pa_cons (pv 1) pa_nil))) (blkOk_by (own := [("number", 4), ("post", 5)]) (N := nm_is_shares) (sc := defScope s_is_shares) (by decide +kernel)) (fun _ _ _ _ _ => (pg_tup (by rfl) (pgs_cons (pg_name (i := 4) sc_is_shares.nd rfl (Or.inl rfl)) (pgs_cons (pg_name (i := 5) sc_is_shares.nd rfl (Or.inl rfl)) pgs_nil)))) (fun _ _ _ _ _ => pts_nil) (fun _ _ _ _ _ => (pe_cmpR (r := rEqD K) (op_eqD hr.units) (pe_ix (r := rIx K) ix_seq (pe_ix (r := rIx K) ix_seq (pv 2) (pv 5) (fun _ _ => rfl)) (pv 4) (fun _ _ => rfl)) (pe_glob (v := .ref aW_WHOLE) (by rfl) gW_WHOLE rfl) (nomark _)))) pa_nil)))))), ?_⟩
    refine fn_pure w (sl_some (s := .d _) h1 (sl_some (s := .d _) h2 (sl_some (s := .d _) h3 (sl_none (sl_none (sl_none sl_nil)))))) rfl ?_ q
    rcases th_cases hT.nd with ⟨t, xs, rfl⟩ | ⟨z0, z1, z2⟩
    · have hl := len_tup t hT
      have hk := kit_seqT t xs
      rw [sharesB_seq]
      refine s_seq (s_if (b := !decide ((xs.length : Int) = n)) (nb_is (nb_or (nb_not (nb_B (n_isi2 (n_rd rfl rfl) hk.1 hk.2))) fun _ => nb_test (n_neI (n_len (t := t) (n_rd rfl rfl)) (n_ixT (d := .int n) (n_rd rfl rfl) n_int rfl))) (by cases t <;> rfl)) (fun h0 => ?_) (fun h0 => s_next ?_))
      · rw [Bool.not_eq_true'] at h0
        refine s_ret n_bl ?_
        rw [h0, Bool.false_and]
        rfl
      · rw [Bool.not_eq_false'] at h0
        refine s_seq (s_if (b := !xs.all (rowB ps.length)) (nb_not (nb_B (n_is (n_all (bs := xs.map (rowB ps.length)) (n_is (n_lc1 xs id (fun y => .bool (rowB ps.length y)) (nw_seq (t := t) (by rw [List.map_id]; exact n_rd rfl rfl)) (by omega) fun y hy => nt (gn_1 (by decide)) nb_yes fun _ => n_is_share_row (na_cons (n_rd rfl rfl) (na_cons (n_is (n_len (t := false) (ds := ps.map PyData.int) (n_rd rfl rfl)) (by rw [List.length_map])) na_nil)) (hl.2 y hy) hk6) (by rw [List.map_map]; rfl))) (by rw [List.all_map]; rfl)))) (fun h2 => ?_) (fun h2 => s_next ?_))
        · rw [Bool.not_eq_true'] at h2
          refine s_ret n_bl ?_
          rw [h2, Bool.and_false, Bool.false_and]
        · rw [Bool.not_eq_false'] at h2
          have hn := of_decide_eq_true h0
          refine s_ret (n_is (n_all (bs := ps.zipIdx.map fun x => decide (cellR xs x.1.toNat x.2 = 1)) (n_is (n_lc1 ps.zipIdx (fun x => .tuple [.int (x.2 : Nat), .int x.1]) (fun x => .bool (decide (cellR xs x.1.toNat x.2 = 1))) (nw_enumS (t := false) (xs := ps) (e1 := .int) (na_cons (n_rd rfl rfl) na_nil)) (by rw [List.length_zipIdx]; omega) fun x hx => nt (gn_tup rfl (gns_cons (gn_1 (by decide)) (gns_cons (gn_1 (by decide)) gns_nil))) nb_yes fun _ => ?_) (by rw [List.map_map]; rfl))) (d' := .bool (ps.zipIdx.all fun x => decide (cellR xs x.1.toNat x.2 = 1))) (by rw [List.all_map]; rfl)) ?_
          · have hi := List.mem_zipIdx hx
            have hm : x.1 ∈ ps := by rw [hi.2.2]; exact List.getElem_mem _
            have hr := hP.rng _ hm
            have hpl : x.1.toNat < xs.length := by omega
            obtain ⟨t2, rs, e, hrs⟩ := rowB_row (List.all_eq_true.mp h2 _ (List.getElem_mem hpl))
            have hil : x.2 < rs.length := by omega
            have hg : xs[x.1.toNat]? = some (seqD t2 (rs.map ratD)) := by rw [List.getElem?_eq_getElem hpl, e]
            rw [cellR_at hg hil]
            refine n_is (n_eqW (ns := [1, 1]) tW_WHOLE (n_ix (t := t2) (ds := rs.map ratD) (d := ratD rs[x.2]) (n_ix (t := t) (ds := xs) (n_rd rfl rfl) (n_rd rfl rfl) (atI_at (by omega) hg)) (n_rd rfl rfl) (atI_at (by omega) ?_)) rfl rfl) (by rw [eqv_rat1])
            rw [Int.toNat_natCast, List.getElem?_map, List.getElem?_eq_getElem hil]
            rfl
          · rw [h0, h2]
            rfl
    · have hk := kit_any x hT.nd
      rw [z1, z2] at hk
      refine s_seq (s_if (b := true) (nb_or (b' := true) (nb_not (nb_B (n_isi2 (n_rd rfl rfl) hk.2.1 hk.1))) fun z => by cases z) (fun h0 => ?_) fun h0 => by cases h0)
      refine s_ret n_bl ?_
      unfold sharesB
      rw [z0]
end
end Pw

/-! ## K24_law -/
namespace Pw
open PySem L2 Evl
section
variable {P : Program} {w : World} {K : PySem.W.Frag} {mg : Str → Option Value} {base : Heap}
theorem sc_law : FnScope nm_law ps_law (defScope s_law) := ⟨rfl, rfl, rfl, by decide +kernel, rfl, by decide +kernel, by decide +kernel⟩
theorem ok_law {f : Addr} {fd : FuncData} (T : Txt mg) (Ds : Defs K mg) (D : Dfn K mg "law" s_law ps_law f fd) : FnG P w K mg base 7 f fd ps_law (spLaw K) := by
  obtain ⟨f_law_box, fd_law_box, D_law_box⟩ := Ds.d_law_box
  have G_law_box := ok_law_box (P := P) (w := w) (base := base) T Ds D_law_box
  obtain ⟨f_law_world, fd_law_world, D_law_world⟩ := Ds.d_law_world
  have G_law_world := ok_law_world (P := P) (w := w) (base := base) T Ds D_law_world
  obtain ⟨f_law_bent, fd_law_bent, D_law_bent⟩ := Ds.d_law_bent
  have G_law_bent := ok_law_bent (P := P) (w := w) (base := base) T Ds D_law_bent
  obtain ⟨f_law_is, fd_law_is, D_law_is⟩ := Ds.d_law_is
  have G_law_is := ok_law_is (P := P) (w := w) (base := base) T Ds D_law_is
  obtain ⟨f_is_shares, fd_is_shares, D_is_shares⟩ := Ds.d_is_shares
  have G_is_shares := ok_is_shares (P := P) (w := w) (base := base) T Ds D_is_shares
  refine D.F.okG sc_law (fun vs H Q E h => ?_) (fun cdv A outer s H vs Q E hr hg h => ?_)
  · obtain ⟨a, ns, rfl, _⟩ := h
    rfl
  · obtain ⟨a, ns, rfl, hS, hlen, q⟩ := h
    have hr_law_box := hr.mono (show 2 ≤ 6 by decide)
    have hr_law_world := hr.mono (show 5 ≤ 6 by decide)
    have hr_law_bent := hr.mono (show 2 ≤ 6 by decide)
    have hr_law_is := hr.mono (show 4 ≤ 6 by decide)
    have hr_is_shares := hr.mono (show 6 ≤ 6 by decide)
    refine ⟨_, (pss_cons (ps_for PassesOwn.never rfl (pi_range1 (by rfl) T.m_range (pa_cons (pe_op op_add pe_int (pe_callB (call_min2 rfl) (by rfl) T.m_min (by decide +kernel) (pa_cons pe_int (pa_cons (pe_callB call_len_seq (by rfl) T.m_len (by decide +kernel) (pa_cons (pv 0) pa_nil)) pa_nil)))) pa_nil)) (pg_name (i := 1) sc_law.nd rfl (Or.inl rfl))
        (pss_cons (ps_set (i := 2) sc_law.nd rfl (Or.inl rfl) (pe_call G_law_box hr_law_box (by rfl) D_law_box.g D_law_box.F.kp D_law_box.b .nil pass0 (pa_cons (pv 0) (pa_cons (pv 1) pa_nil))))
        (pss_cons (ps_asg (pe_call G_law_world hr_law_world (by rfl) D_law_world.g D_law_world.F.kp D_law_world.b .nil pass0 (pa_cons (pv 2) pa_nil)) (pg_tup (by rfl) (pgs_cons (pg_name (i := 3) sc_law.nd rfl (Or.inl rfl)) (pgs_cons (pg_name (i := 4) sc_law.nd rfl (Or.inl rfl)) (pgs_cons (pg_name (i := 5) sc_law.nd rfl (Or.inl rfl)) pgs_nil)))))
        (pss_cons (ps_if (pt_cmpR op_notBl (pe_call G_is_shares hr_is_shares (by rfl) D_is_shares.g D_is_shares.F.kp D_is_shares.b .nil pass0 (pa_cons (pv 3) (pa_cons (pv 4) (pa_cons (pv 5) pa_nil)))) pe_bl (nomark _))
          (pss_one (ps_ret pe_bl))
          pss_nil)
        (pss_one (ps_for PassesOwn.never rfl (pi_range1 (by rfl) T.m_range (pa_cons pe_int pa_nil)) (pg_name (i := 6) sc_law.nd rfl (Or.inl rfl))
          (pss_cons (ps_set (i := 7) sc_law.nd rfl (Or.inl rfl) (pe_call G_law_bent hr_law_bent (by rfl) D_law_bent.g D_law_bent.F.kp D_law_bent.b .nil pass0 (pa_cons (pv 2) (pa_cons (pv 4) (pa_cons (pv 5) pa_nil)))))
          (pss_cons (ps_set (i := 8) sc_law.nd rfl (Or.inl rfl) (pe_callTy (cr_strA hg (Nat.lt_of_succ_lt hr.units65)) (by rfl) T.m_str (by decide +kernel) (pa_cons (pv 7) pa_nil)))
          (pss_cons (ps_set (i := 9) sc_law.nd rfl (Or.inl rfl) (pe_call G_is_shares hr_is_shares (by rfl) D_is_shares.g D_is_shares.F.kp D_is_shares.b .nil pass0 (pa_cons (pv 3) (pa_cons (pv 4) (pa_cons (pv 7) pa_nil)))))
          (pss_one (ps_if (PW.pt (pw_or (pt_not (pt_val (pe_callB call_isi (by rfl) T.m_isinstance (by decide +kernel) (pa_cons (pv 9) (pa_cons (pe_bltn (v := .ty "bool") (by rfl) T.m_bool (by decide +kernel) rfl) pa_nil))))) (pw_or (pt_cmpR op_ne (pv 9) (pe_call G_law_is hr_law_is (by rfl) D_law_is.g D_law_is.F.kp D_law_is.b .nil pass0 (pa_cons (pv 3) (pa_cons (pv 4) (pa_cons (pv 7) pa_nil)))) (nomark _)) (pw_or1 (pt_cmpR op_ne (pe_callTy (cr_strA hg (Nat.lt_of_succ_lt hr.units65)) (by rfl) T.m_str (by decide +kernel) (pa_cons (pv 7) pa_nil)) (pv 8) (nomark _))))))
            (pss_one (ps_ret pe_bl))
            pss_nil)))))))))))
      (pss_one (ps_ret pe_bl))), ?_⟩
    refine fn_law hS (sl_none (sl_none (sl_none (sl_none (sl_none (sl_none (sl_none (sl_none (sl_none sl_nil))))))))) rfl ?_ q
    obtain ⟨m, hm, hm0, hm1⟩ : ∃ m : Int, (1 + (if (((ns.map PyData.int).length : Nat) : Int) < 3 then (((ns.map PyData.int).length : Nat) : Int) else 3)) = m ∧ 0 ≤ m ∧ m ≤ 63 := by
      refine ⟨_, rfl, ?_⟩
      rw [List.length_map]
      split <;> omega
    refine s_seq (s_for (rngI 0 m.toNat) PyData.int (nw_rng1 (j := m) (na_cons (n_is (n_add n_int (n_min2 n_int (n_len (t := false) (n_rd rfl rfl)))) (by rw [hm])) na_nil) (by omega)) (fun i Γ' => ∃ x1 x2 x3 x4 x5 x6 x7 x8 x9 : Option Sl, Γ' = [some (.d (.list (ns.map .int))), x1, x2, x3, x4, x5, x6, x7, x8, x9]) ⟨none, none, none, none, none, none, none, none, none, rfl⟩ (fun i a Γ' ha hI => ?_) (fun Γ' hI => ?_))
    · obtain ⟨x1, x2, x3, x4, x5, x6, x7, x8, x9, rfl⟩ := hI
      have ha2 := rngI_mem.mp (List.mem_of_getElem? ha)
      obtain ⟨kn, rfl⟩ : ∃ kn : Nat, a = (kn : Int) := ⟨a.toNat, by omega⟩
      refine ⟨_, gt_1, ?_⟩
      refine s_seq (s_box (ns := ns) (k := kn) (na_cons (n_rd rfl rfl) (na_cons (n_rd rfl rfl) na_nil)) (by omega) fun b => ?_)
      refine s_mid (fun Γ' => ∃ n ts ps rows, ShW n ts ps rows ∧ Γ' = [some (.d (.list (ns.map .int))), some (.d (.int (kn : Int))), some (.b b (0 + (7000 + 1))), some (.d (webD n ts)), some (.d (.list (List.map PyData.int ps))), some (.d (shD false rows)), x6, x7, x8, x9]) ?_ ?_
      · refine s_asgTV (i := 2) (Γ2 := fun d => match d with | .tuple [a, b', c] => [some (.d (.list (ns.map .int))), some (.d (.int (kn : Int))), some (.b b (0 + (7000 + 1))), some (.d a), some (.d b'), some (.d c), x6, x7, x8, x9] | _ => []) rfl (v_call na_nil world_ok) (by unfold lid; omega) (fun d hd => ?_) fun d hd => ?_
        · obtain ⟨n, ts, ps, rows, hw, rfl⟩ := hd
          exact gt_tup rfl (gts_cons gt_1 (gts_cons gt_1 (gts_cons gt_1 gts_nil)))
        · obtain ⟨n, ts, ps, rows, hw, rfl⟩ := hd
          exact ⟨n, ts, ps, rows, hw, rfl⟩
      rintro Γ' ⟨n, ts, ps, rows, hw, rfl⟩
      have hp6 := hw.p6
      have hP := hw.P
      have hgood := shares_th (t := false) hw
      refine s_seq (s_if (b := false) (nb_is (nb_test (n_notB (n_is_shares (na_cons (n_rd rfl rfl) (na_cons (n_rd rfl rfl) (na_cons (n_rd rfl rfl) na_nil))) hgood.1.1 hP hp6) n_bl)) (by rw [shares_true hw]; rfl)) (fun h => by cases h) fun _ => s_next ?_)
      refine s_for (rngI 0 8) PyData.int (nw_rng1 (j := 8) (na_cons n_int na_nil) (by omega)) (fun i Γ' => ∃ (c : Nat) (x6 x7 x8 x9 : Option Sl), c ≤ 8000 + 100 * i ∧ Γ' = [some (.d (.list (ns.map .int))), some (.d (.int (kn : Int))), some (.b b c), some (.d (webD n ts)), some (.d (.list (List.map PyData.int ps))), some (.d (shD false rows)), x6, x7, x8, x9]) ⟨_, _, _, _, _, by omega, rfl⟩ (fun j a Γ' ha hI => ?_) (fun Γ' hI => ?_)
      · obtain ⟨c, x6, x7, x8, x9, hc, rfl⟩ := hI
        have hj : j < 8 := by
          have := (List.getElem?_eq_some_iff.mp ha).1
          rwa [rngI_len] at this
        refine ⟨_, gt_1, ?_⟩
        refine s_seq (s_asgV (i := 2) rfl (v_call (na_cons (n_rd rfl rfl) (na_cons (n_rd rfl rfl) na_nil)) (bent24_ok hw)) (by unfold lid; omega) fun d hd => ?_)
        refine s_seq (s_asg (n_strA (n_rd rfl rfl) hd.2) ?_)
        refine s_seq (s_asg (n_is_shares (na_cons (n_rd rfl rfl) (na_cons (n_rd rfl rfl) (na_cons (n_rd rfl rfl) na_nil))) hd.1.1 hP hp6) ?_)
        refine s_if (b := false) (nb_is (nb_or (nb_not (nb_B (n_isi (b := true) (n_rd rfl rfl) (show kitB "bool" "bool" = some true by decide +kernel)))) fun _ => nb_or (nb_test (n_neB (n_rd rfl rfl) (n_law_is (na_cons (n_rd rfl rfl) (na_cons (n_rd rfl rfl) (na_cons (n_rd rfl rfl) na_nil))) hd.1.1 hP hp6))) fun _ => nb_test (n_neS (n_strA (n_rd rfl rfl) hd.2) (n_rd rfl rfl))) (by simp)) (fun h => by cases h) fun _ => s_next ⟨_, _, _, _, _, ?_, rfl⟩
        omega
      · obtain ⟨c, x6, x7, x8, x9, hc, rfl⟩ := hI
        exact ⟨_, _, _, _, _, _, _, _, _, rfl⟩
    · obtain ⟨x1, x2, x3, x4, x5, x6, x7, x8, x9, rfl⟩ := hI
      exact s_ret n_bl rfl
end
end Pw

namespace Pw
open PySem L2 Evl
theorem all_mk {l : PySem.W.OpenLaw} {w : World} {K : PySem.W.Frag} {h : Heap} {mg : Str → Option Value} {fa f1 f2 f3 f4 f5 f6 f7 f8 f9 f10 f11 f12 f13 f14 f15 f16 f17 f18 f19 f20 f21 f22 f23 f24 f25 Q_WHOLE : Addr} (X : K.In h) (G : h.Ns mainGlobals mg) (hfa : mg "law" = some (.ref fa))
    {od1 an1 od2 an2 od3 an3 od4 an4 od5 an5 od6 an6 od7 an7 od8 an8 od9 an9 od10 an10 od11 an11 od12 an12 od13 an13 od14 an14 od15 an15 od16 an16 od17 an17 od18 an18 od19 an19 od20 an20 od21 an21 od22 an22 od23 an23 od24 an24 od25 an25 : Option Addr} {sl1 sl2 sl3 sl4 sl5 sl6 sl7 sl8 sl9 sl10 sl11 sl12 sl13 sl14 sl15 sl16 sl17 sl18 sl19 sl20 sl21 sl22 sl23 sl24 sl25 : Array (Option Value)} {oc1 kV1 dc1 pm1 cd1 ct1 oc2 kV2 dc2 pm2 cd2 ct2 oc3 kV3 dc3 pm3 cd3 ct3 oc4 kV4 dc4 pm4 cd4 ct4 oc5 kV5 dc5 pm5 cd5 ct5 oc6 kV6 dc6 pm6 cd6 ct6 oc7 kV7 dc7 pm7 cd7 ct7 oc8 kV8 dc8 pm8 cd8 ct8 oc9 kV9 dc9 pm9 cd9 ct9 oc10 kV10 dc10 pm10 cd10 ct10 oc11 kV11 dc11 pm11 cd11 ct11 oc12 kV12 dc12 pm12 cd12 ct12 oc13 kV13 dc13 pm13 cd13 ct13 oc14 kV14 dc14 pm14 cd14 ct14 oc15 kV15 dc15 pm15 cd15 ct15 oc16 kV16 dc16 pm16 cd16 ct16 oc17 kV17 dc17 pm17 cd17 ct17 oc18 kV18 dc18 pm18 cd18 ct18 oc19 kV19 dc19 pm19 cd19 ct19 oc20 kV20 dc20 pm20 cd20 ct20 oc21 kV21 dc21 pm21 cd21 ct21 oc22 kV22 dc22 pm22 cd22 ct22 oc23 kV23 dc23 pm23 cd23 ct23 oc24 kV24 dc24 pm24 cd24 ct24 oc25 kV25 dc25 pm25 cd25 ct25 : Value}
    {qd_WHOLE : Option Addr} {qs_WHOLE : Array (Option Value)} {qn_WHOLE : Nat} {qt0_WHOLE qt1_WHOLE : Tok}
    (qa_WHOLE : PySem.W.nsIn K mainGlobals "WHOLE" = some (some (.ref Q_WHOLE))) (ql_WHOLE : K.lookup Q_WHOLE = some ⟨.type "tuple", qd_WHOLE, .seq #[.int 1 qt0_WHOLE, .int 1 qt1_WHOLE] qn_WHOLE, qs_WHOLE⟩)
    (a1 : PySem.W.nsIn K mainGlobals "is_number" = some (some (.ref f1))) (l1 : K.lookup f1 = some ⟨oc1, od1, .func (PySem.W.fnOf "is_number" "is_number" (defArgs s_is_number) (defBody s_is_number) (defScope s_is_number) .none kV1 dc1 pm1 an1 cd1 ct1), sl1⟩) (c1 : PySem.W.codeIn K cd1 "is_number" = true) (k1 : PySem.W.keepIn K (.ref f1) = true)
    (a2 : PySem.W.nsIn K mainGlobals "common" = some (some (.ref f2))) (l2 : K.lookup f2 = some ⟨oc2, od2, .func (PySem.W.fnOf "common" "common" (defArgs s_common) (defBody s_common) (defScope s_common) .none kV2 dc2 pm2 an2 cd2 ct2), sl2⟩) (c2 : PySem.W.codeIn K cd2 "common" = true) (k2 : PySem.W.keepIn K (.ref f2) = true)
    (a3 : PySem.W.nsIn K mainGlobals "part_of" = some (some (.ref f3))) (l3 : K.lookup f3 = some ⟨oc3, od3, .func (PySem.W.fnOf "part_of" "part_of" (defArgs s_part_of) (defBody s_part_of) (defScope s_part_of) .none kV3 dc3 pm3 an3 cd3 ct3), sl3⟩) (c3 : PySem.W.codeIn K cd3 "part_of" = true) (k3 : PySem.W.keepIn K (.ref f3) = true)
    (a4 : PySem.W.nsIn K mainGlobals "is_part" = some (some (.ref f4))) (l4 : K.lookup f4 = some ⟨oc4, od4, .func (PySem.W.fnOf "is_part" "is_part" (defArgs s_is_part) (defBody s_is_part) (defScope s_is_part) .none kV4 dc4 pm4 an4 cd4 ct4), sl4⟩) (c4 : PySem.W.codeIn K cd4 "is_part" = true) (k4 : PySem.W.keepIn K (.ref f4) = true)
    (a5 : PySem.W.nsIn K mainGlobals "added" = some (some (.ref f5))) (l5 : K.lookup f5 = some ⟨oc5, od5, .func (PySem.W.fnOf "added" "added" (defArgs s_added) (defBody s_added) (defScope s_added) .none kV5 dc5 pm5 an5 cd5 ct5), sl5⟩) (c5 : PySem.W.codeIn K cd5 "added" = true) (k5 : PySem.W.keepIn K (.ref f5) = true)
    (a6 : PySem.W.nsIn K mainGlobals "added_up" = some (some (.ref f6))) (l6 : K.lookup f6 = some ⟨oc6, od6, .func (PySem.W.fnOf "added_up" "added_up" (defArgs s_added_up) (defBody s_added_up) (defScope s_added_up) .none kV6 dc6 pm6 an6 cd6 ct6), sl6⟩) (c6 : PySem.W.codeIn K cd6 "added_up" = true) (k6 : PySem.W.keepIn K (.ref f6) = true)
    (a7 : PySem.W.nsIn K mainGlobals "is_share_row" = some (some (.ref f7))) (l7 : K.lookup f7 = some ⟨oc7, od7, .func (PySem.W.fnOf "is_share_row" "is_share_row" (defArgs s_is_share_row) (defBody s_is_share_row) (defScope s_is_share_row) .none kV7 dc7 pm7 an7 cd7 ct7), sl7⟩) (c7 : PySem.W.codeIn K cd7 "is_share_row" = true) (k7 : PySem.W.keepIn K (.ref f7) = true)
    (a8 : PySem.W.nsIn K mainGlobals "is_shares" = some (some (.ref f8))) (l8 : K.lookup f8 = some ⟨oc8, od8, .func (PySem.W.fnOf "is_shares" "is_shares" (defArgs s_is_shares) (defBody s_is_shares) (defScope s_is_shares) .none kV8 dc8 pm8 an8 cd8 ct8), sl8⟩) (c8 : PySem.W.codeIn K cd8 "is_shares" = true) (k8 : PySem.W.keepIn K (.ref f8) = true)
    (a9 : PySem.W.nsIn K mainGlobals "_law_cell_at" = some (some (.ref f9))) (l9 : K.lookup f9 = some ⟨oc9, od9, .func (PySem.W.fnOf "_law_cell_at" "_law_cell_at" (defArgs s_law_cell_at) (defBody s_law_cell_at) (defScope s_law_cell_at) .none kV9 dc9 pm9 an9 cd9 ct9), sl9⟩) (c9 : PySem.W.codeIn K cd9 "_law_cell_at" = true) (k9 : PySem.W.keepIn K (.ref f9) = true)
    (a10 : PySem.W.nsIn K mainGlobals "_law_box" = some (some (.ref f10))) (l10 : K.lookup f10 = some ⟨oc10, od10, .func (PySem.W.fnOf "_law_box" "_law_box" (defArgs s_law_box) (defBody s_law_box) (defScope s_law_box) .none kV10 dc10 pm10 an10 cd10 ct10), sl10⟩) (c10 : PySem.W.codeIn K cd10 "_law_box" = true) (k10 : PySem.W.keepIn K (.ref f10) = true)
    (a11 : PySem.W.nsIn K mainGlobals "_law_take" = some (some (.ref f11))) (l11 : K.lookup f11 = some ⟨oc11, od11, .func (PySem.W.fnOf "_law_take" "_law_take" (defArgs s_law_take) (defBody s_law_take) (defScope s_law_take) .none kV11 dc11 pm11 an11 cd11 ct11), sl11⟩) (c11 : PySem.W.codeIn K cd11 "_law_take" = true) (k11 : PySem.W.keepIn K (.ref f11) = true)
    (a12 : PySem.W.nsIn K mainGlobals "_law_many" = some (some (.ref f12))) (l12 : K.lookup f12 = some ⟨oc12, od12, .func (PySem.W.fnOf "_law_many" "_law_many" (defArgs s_law_many) (defBody s_law_many) (defScope s_law_many) .none kV12 dc12 pm12 an12 cd12 ct12), sl12⟩) (c12 : PySem.W.codeIn K cd12 "_law_many" = true) (k12 : PySem.W.keepIn K (.ref f12) = true)
    (a13 : PySem.W.nsIn K mainGlobals "_law_weight" = some (some (.ref f13))) (l13 : K.lookup f13 = some ⟨oc13, od13, .func (PySem.W.fnOf "_law_weight" "_law_weight" (defArgs s_law_weight) (defBody s_law_weight) (defScope s_law_weight) .none kV13 dc13 pm13 an13 cd13 ct13), sl13⟩) (c13 : PySem.W.codeIn K cd13 "_law_weight" = true) (k13 : PySem.W.keepIn K (.ref f13) = true)
    (a14 : PySem.W.nsIn K mainGlobals "_law_web" = some (some (.ref f14))) (l14 : K.lookup f14 = some ⟨oc14, od14, .func (PySem.W.fnOf "_law_web" "_law_web" (defArgs s_law_web) (defBody s_law_web) (defScope s_law_web) .none kV14 dc14 pm14 an14 cd14 ct14), sl14⟩) (c14 : PySem.W.codeIn K cd14 "_law_web" = true) (k14 : PySem.W.keepIn K (.ref f14) = true)
    (a15 : PySem.W.nsIn K mainGlobals "_law_posts" = some (some (.ref f15))) (l15 : K.lookup f15 = some ⟨oc15, od15, .func (PySem.W.fnOf "_law_posts" "_law_posts" (defArgs s_law_posts) (defBody s_law_posts) (defScope s_law_posts) .none kV15 dc15 pm15 an15 cd15 ct15), sl15⟩) (c15 : PySem.W.codeIn K cd15 "_law_posts" = true) (k15 : PySem.W.keepIn K (.ref f15) = true)
    (a16 : PySem.W.nsIn K mainGlobals "_law_shared" = some (some (.ref f16))) (l16 : K.lookup f16 = some ⟨oc16, od16, .func (PySem.W.fnOf "_law_shared" "_law_shared" (defArgs s_law_shared) (defBody s_law_shared) (defScope s_law_shared) .none kV16 dc16 pm16 an16 cd16 ct16), sl16⟩) (c16 : PySem.W.codeIn K cd16 "_law_shared" = true) (k16 : PySem.W.keepIn K (.ref f16) = true)
    (a17 : PySem.W.nsIn K mainGlobals "_law_frac" = some (some (.ref f17))) (l17 : K.lookup f17 = some ⟨oc17, od17, .func (PySem.W.fnOf "_law_frac" "_law_frac" (defArgs s_law_frac) (defBody s_law_frac) (defScope s_law_frac) .none kV17 dc17 pm17 an17 cd17 ct17), sl17⟩) (c17 : PySem.W.codeIn K cd17 "_law_frac" = true) (k17 : PySem.W.keepIn K (.ref f17) = true)
    (a18 : PySem.W.nsIn K mainGlobals "_law_plus" = some (some (.ref f18))) (l18 : K.lookup f18 = some ⟨oc18, od18, .func (PySem.W.fnOf "_law_plus" "_law_plus" (defArgs s_law_plus) (defBody s_law_plus) (defScope s_law_plus) .none kV18 dc18 pm18 an18 cd18 ct18), sl18⟩) (c18 : PySem.W.codeIn K cd18 "_law_plus" = true) (k18 : PySem.W.keepIn K (.ref f18) = true)
    (a19 : PySem.W.nsIn K mainGlobals "_law_row" = some (some (.ref f19))) (l19 : K.lookup f19 = some ⟨oc19, od19, .func (PySem.W.fnOf "_law_row" "_law_row" (defArgs s_law_row) (defBody s_law_row) (defScope s_law_row) .none kV19 dc19 pm19 an19 cd19 ct19), sl19⟩) (c19 : PySem.W.codeIn K cd19 "_law_row" = true) (k19 : PySem.W.keepIn K (.ref f19) = true)
    (a20 : PySem.W.nsIn K mainGlobals "_law_shares" = some (some (.ref f20))) (l20 : K.lookup f20 = some ⟨oc20, od20, .func (PySem.W.fnOf "_law_shares" "_law_shares" (defArgs s_law_shares) (defBody s_law_shares) (defScope s_law_shares) .none kV20 dc20 pm20 an20 cd20 ct20), sl20⟩) (c20 : PySem.W.codeIn K cd20 "_law_shares" = true) (k20 : PySem.W.keepIn K (.ref f20) = true)
    (a21 : PySem.W.nsIn K mainGlobals "_law_world" = some (some (.ref f21))) (l21 : K.lookup f21 = some ⟨oc21, od21, .func (PySem.W.fnOf "_law_world" "_law_world" (defArgs s_law_world) (defBody s_law_world) (defScope s_law_world) .none kV21 dc21 pm21 an21 cd21 ct21), sl21⟩) (c21 : PySem.W.codeIn K cd21 "_law_world" = true) (k21 : PySem.W.keepIn K (.ref f21) = true)
    (a22 : PySem.W.nsIn K mainGlobals "_law_is_fraction" = some (some (.ref f22))) (l22 : K.lookup f22 = some ⟨oc22, od22, .func (PySem.W.fnOf "_law_is_fraction" "_law_is_fraction" (defArgs s_law_is_fraction) (defBody s_law_is_fraction) (defScope s_law_is_fraction) .none kV22 dc22 pm22 an22 cd22 ct22), sl22⟩) (c22 : PySem.W.codeIn K cd22 "_law_is_fraction" = true) (k22 : PySem.W.keepIn K (.ref f22) = true)
    (a23 : PySem.W.nsIn K mainGlobals "_law_is" = some (some (.ref f23))) (l23 : K.lookup f23 = some ⟨oc23, od23, .func (PySem.W.fnOf "_law_is" "_law_is" (defArgs s_law_is) (defBody s_law_is) (defScope s_law_is) .none kV23 dc23 pm23 an23 cd23 ct23), sl23⟩) (c23 : PySem.W.codeIn K cd23 "_law_is" = true) (k23 : PySem.W.keepIn K (.ref f23) = true)
    (a24 : PySem.W.nsIn K mainGlobals "_law_bent" = some (some (.ref f24))) (l24 : K.lookup f24 = some ⟨oc24, od24, .func (PySem.W.fnOf "_law_bent" "_law_bent" (defArgs s_law_bent) (defBody s_law_bent) (defScope s_law_bent) .none kV24 dc24 pm24 an24 cd24 ct24), sl24⟩) (c24 : PySem.W.codeIn K cd24 "_law_bent" = true) (k24 : PySem.W.keepIn K (.ref f24) = true)
    (a25 : PySem.W.nsIn K mainGlobals "law" = some (some (.ref f25))) (l25 : K.lookup f25 = some ⟨oc25, od25, .func (PySem.W.fnOf "law" "law" (defArgs s_law) (defBody s_law) (defScope s_law) .none kV25 dc25 pm25 an25 cd25 ct25), sl25⟩) (c25 : PySem.W.codeIn K cd25 "law" = true) (k25 : PySem.W.keepIn K (.ref f25) = true)
    (z1 : PySem.W.nsIn K mainGlobals "len" = some none)
    (z2 : PySem.W.nsIn K mainGlobals "abs" = some none)
    (z3 : PySem.W.nsIn K mainGlobals "int" = some none)
    (z4 : PySem.W.nsIn K mainGlobals "dict" = some none)
    (z5 : PySem.W.nsIn K mainGlobals "sum" = some none)
    (z6 : PySem.W.nsIn K mainGlobals "range" = some none)
    (z7 : PySem.W.nsIn K mainGlobals "min" = some none)
    (z8 : PySem.W.nsIn K mainGlobals "max" = some none)
    (z9 : PySem.W.nsIn K mainGlobals "tuple" = some none)
    (z10 : PySem.W.nsIn K mainGlobals "sorted" = some none)
    (z11 : PySem.W.nsIn K mainGlobals "isinstance" = some none)
    (z12 : PySem.W.nsIn K mainGlobals "list" = some none)
    (z13 : PySem.W.nsIn K mainGlobals "str" = some none)
    (z14 : PySem.W.nsIn K mainGlobals "bool" = some none)
    (z15 : PySem.W.nsIn K mainGlobals "all" = some none)
    (z16 : PySem.W.nsIn K mainGlobals "any" = some none)
    (z17 : PySem.W.nsIn K mainGlobals "zip" = some none)
    (z18 : PySem.W.nsIn K mainGlobals "enumerate" = some none)
    (z19 : PySem.W.nsIn K mainGlobals "reversed" = some none)
    (z20 : PySem.W.nsIn K mainGlobals "set" = some none)
    : ∃ fd : FuncData, (∀ (s : Shared) (v : Value), BindsTo s fd ⟨[v], []⟩ [("_law_script", v)]) ∧ ∀ base : Heap, K.In base → base.Ns mainGlobals mg → FnG l.prog w K mg base 7 fa fd ps_law (spLaw K) := by
  have e := hfa.symm.trans (PySem.W.mg_of X G a25)
  cases e
  have T : Txt mg := ⟨PySem.W.mg_none_of X G z1, PySem.W.mg_none_of X G z2, PySem.W.mg_none_of X G z3, PySem.W.mg_none_of X G z4, PySem.W.mg_none_of X G z5, PySem.W.mg_none_of X G z6, PySem.W.mg_none_of X G z7, PySem.W.mg_none_of X G z8, PySem.W.mg_none_of X G z9, PySem.W.mg_none_of X G z10, PySem.W.mg_none_of X G z11, PySem.W.mg_none_of X G z12, PySem.W.mg_none_of X G z13, PySem.W.mg_none_of X G z14, PySem.W.mg_none_of X G z15, PySem.W.mg_none_of X G z16, PySem.W.mg_none_of X G z17, PySem.W.mg_none_of X G z18, PySem.W.mg_none_of X G z19, PySem.W.mg_none_of X G z20⟩
  have F1 := fun_mk (st := s_is_number) l1 c1 k1
  have D1 : Dfn K mg "is_number" s_is_number ps_is_number _ _ := ⟨F1, PySem.W.mg_of X G a1, F1.binds (ps := ps_is_number) fun _ _ _ _ _ _ us hl => match us, hl with | [_, _], _ => rfl⟩
  have F2 := fun_mk (st := s_common) l2 c2 k2
  have D2 : Dfn K mg "common" s_common ps_common _ _ := ⟨F2, PySem.W.mg_of X G a2, F2.binds (ps := ps_common) fun _ _ _ _ _ _ us hl => match us, hl with | [_, _], _ => rfl⟩
  have F3 := fun_mk (st := s_part_of) l3 c3 k3
  have D3 : Dfn K mg "part_of" s_part_of ps_part_of _ _ := ⟨F3, PySem.W.mg_of X G a3, F3.binds (ps := ps_part_of) fun _ _ _ _ _ _ us hl => match us, hl with | [_, _], _ => rfl⟩
  have F4 := fun_mk (st := s_is_part) l4 c4 k4
  have D4 : Dfn K mg "is_part" s_is_part ps_is_part _ _ := ⟨F4, PySem.W.mg_of X G a4, F4.binds (ps := ps_is_part) fun _ _ _ _ _ _ us hl => match us, hl with | [_], _ => rfl⟩
  have F5 := fun_mk (st := s_added) l5 c5 k5
  have D5 : Dfn K mg "added" s_added ps_added _ _ := ⟨F5, PySem.W.mg_of X G a5, F5.binds (ps := ps_added) fun _ _ _ _ _ _ us hl => match us, hl with | [_, _], _ => rfl⟩
  have F6 := fun_mk (st := s_added_up) l6 c6 k6
  have D6 : Dfn K mg "added_up" s_added_up ps_added_up _ _ := ⟨F6, PySem.W.mg_of X G a6, F6.binds (ps := ps_added_up) fun _ _ _ _ _ _ us hl => match us, hl with | [_], _ => rfl⟩
  have F7 := fun_mk (st := s_is_share_row) l7 c7 k7
  have D7 : Dfn K mg "is_share_row" s_is_share_row ps_is_share_row _ _ := ⟨F7, PySem.W.mg_of X G a7, F7.binds (ps := ps_is_share_row) fun _ _ _ _ _ _ us hl => match us, hl with | [_, _], _ => rfl⟩
  have F8 := fun_mk (st := s_is_shares) l8 c8 k8
  have D8 : Dfn K mg "is_shares" s_is_shares ps_is_shares _ _ := ⟨F8, PySem.W.mg_of X G a8, F8.binds (ps := ps_is_shares) fun _ _ _ _ _ _ us hl => match us, hl with | [_, _, _], _ => rfl⟩
  have F9 := fun_mk (st := s_law_cell_at) l9 c9 k9
  have D9 : Dfn K mg "_law_cell_at" s_law_cell_at ps_law_cell_at _ _ := ⟨F9, PySem.W.mg_of X G a9, F9.binds (ps := ps_law_cell_at) fun _ _ _ _ _ _ us hl => match us, hl with | [_, _], _ => rfl⟩
  have F10 := fun_mk (st := s_law_box) l10 c10 k10
  have D10 : Dfn K mg "_law_box" s_law_box ps_law_box _ _ := ⟨F10, PySem.W.mg_of X G a10, F10.binds (ps := ps_law_box) fun _ _ _ _ _ _ us hl => match us, hl with | [_, _], _ => rfl⟩
  have F11 := fun_mk (st := s_law_take) l11 c11 k11
  have D11 : Dfn K mg "_law_take" s_law_take ps_law_take _ _ := ⟨F11, PySem.W.mg_of X G a11, F11.binds (ps := ps_law_take) fun _ _ _ _ _ _ us hl => match us, hl with | [_, _], _ => rfl⟩
  have F12 := fun_mk (st := s_law_many) l12 c12 k12
  have D12 : Dfn K mg "_law_many" s_law_many ps_law_many _ _ := ⟨F12, PySem.W.mg_of X G a12, F12.binds (ps := ps_law_many) fun _ _ _ _ _ _ us hl => match us, hl with | [_, _, _, _], _ => rfl⟩
  have F13 := fun_mk (st := s_law_weight) l13 c13 k13
  have D13 : Dfn K mg "_law_weight" s_law_weight ps_law_weight _ _ := ⟨F13, PySem.W.mg_of X G a13, F13.binds (ps := ps_law_weight) fun _ _ _ _ _ _ us hl => match us, hl with | [_, _], _ => rfl⟩
  have F14 := fun_mk (st := s_law_web) l14 c14 k14
  have D14 : Dfn K mg "_law_web" s_law_web ps_law_web _ _ := ⟨F14, PySem.W.mg_of X G a14, F14.binds (ps := ps_law_web) fun _ _ _ _ _ _ us hl => match us, hl with | [_, _], _ => rfl⟩
  have F15 := fun_mk (st := s_law_posts) l15 c15 k15
  have D15 : Dfn K mg "_law_posts" s_law_posts ps_law_posts _ _ := ⟨F15, PySem.W.mg_of X G a15, F15.binds (ps := ps_law_posts) fun _ _ _ _ _ _ us hl => match us, hl with | [_, _, _], _ => rfl⟩
  have F16 := fun_mk (st := s_law_shared) l16 c16 k16
  have D16 : Dfn K mg "_law_shared" s_law_shared ps_law_shared _ _ := ⟨F16, PySem.W.mg_of X G a16, F16.binds (ps := ps_law_shared) fun _ _ _ _ _ _ us hl => match us, hl with | [_, _], _ => rfl⟩
  have F17 := fun_mk (st := s_law_frac) l17 c17 k17
  have D17 : Dfn K mg "_law_frac" s_law_frac ps_law_frac _ _ := ⟨F17, PySem.W.mg_of X G a17, F17.binds (ps := ps_law_frac) fun _ _ _ _ _ _ us hl => match us, hl with | [_, _], _ => rfl⟩
  have F18 := fun_mk (st := s_law_plus) l18 c18 k18
  have D18 : Dfn K mg "_law_plus" s_law_plus ps_law_plus _ _ := ⟨F18, PySem.W.mg_of X G a18, F18.binds (ps := ps_law_plus) fun _ _ _ _ _ _ us hl => match us, hl with | [_, _], _ => rfl⟩
  have F19 := fun_mk (st := s_law_row) l19 c19 k19
  have D19 : Dfn K mg "_law_row" s_law_row ps_law_row _ _ := ⟨F19, PySem.W.mg_of X G a19, F19.binds (ps := ps_law_row) fun _ _ _ _ _ _ us hl => match us, hl with | [_, _], _ => rfl⟩
  have F20 := fun_mk (st := s_law_shares) l20 c20 k20
  have D20 : Dfn K mg "_law_shares" s_law_shares ps_law_shares _ _ := ⟨F20, PySem.W.mg_of X G a20, F20.binds (ps := ps_law_shares) fun _ _ _ _ _ _ us hl => match us, hl with | [_, _, _], _ => rfl⟩
  have F21 := fun_mk (st := s_law_world) l21 c21 k21
  have D21 : Dfn K mg "_law_world" s_law_world ps_law_world _ _ := ⟨F21, PySem.W.mg_of X G a21, F21.binds (ps := ps_law_world) fun _ _ _ _ _ _ us hl => match us, hl with | [_], _ => rfl⟩
  have F22 := fun_mk (st := s_law_is_fraction) l22 c22 k22
  have D22 : Dfn K mg "_law_is_fraction" s_law_is_fraction ps_law_is_fraction _ _ := ⟨F22, PySem.W.mg_of X G a22, F22.binds (ps := ps_law_is_fraction) fun _ _ _ _ _ _ us hl => match us, hl with | [_], _ => rfl⟩
  have F23 := fun_mk (st := s_law_is) l23 c23 k23
  have D23 : Dfn K mg "_law_is" s_law_is ps_law_is _ _ := ⟨F23, PySem.W.mg_of X G a23, F23.binds (ps := ps_law_is) fun _ _ _ _ _ _ us hl => match us, hl with | [_, _, _], _ => rfl⟩
  have F24 := fun_mk (st := s_law_bent) l24 c24 k24
  have D24 : Dfn K mg "_law_bent" s_law_bent ps_law_bent _ _ := ⟨F24, PySem.W.mg_of X G a24, F24.binds (ps := ps_law_bent) fun _ _ _ _ _ _ us hl => match us, hl with | [_, _, _], _ => rfl⟩
  have F25 := fun_mk (st := s_law) l25 c25 k25
  have D25 : Dfn K mg "law" s_law ps_law _ _ := ⟨F25, PySem.W.mg_of X G a25, F25.binds (ps := ps_law) fun _ _ _ _ _ _ us hl => match us, hl with | [_], _ => rfl⟩
  have Ds : Defs K mg := ⟨⟨Q_WHOLE, PySem.W.mg_of X G qa_WHOLE, _, _, _, ql_WHOLE, rfl, rfl, (by show 2 ≤ sizeLine; decide), (.cons ⟨_, rfl⟩ (.cons ⟨_, rfl⟩ .nil))⟩, ⟨_, _, D1⟩, ⟨_, _, D2⟩, ⟨_, _, D3⟩, ⟨_, _, D4⟩, ⟨_, _, D5⟩, ⟨_, _, D6⟩, ⟨_, _, D7⟩, ⟨_, _, D8⟩, ⟨_, _, D9⟩, ⟨_, _, D10⟩, ⟨_, _, D11⟩, ⟨_, _, D12⟩, ⟨_, _, D13⟩, ⟨_, _, D14⟩, ⟨_, _, D15⟩, ⟨_, _, D16⟩, ⟨_, _, D17⟩, ⟨_, _, D18⟩, ⟨_, _, D19⟩, ⟨_, _, D20⟩, ⟨_, _, D21⟩, ⟨_, _, D22⟩, ⟨_, _, D23⟩, ⟨_, _, D24⟩⟩
  exact ⟨PySem.W.fnOf "law" "law" (defArgs s_law) (defBody s_law) (defScope s_law) .none kV25 dc25 pm25 an25 cd25 ct25, fun s v => .of_eq rfl, fun base _ _ => ok_law T Ds D25⟩
end Pw
open PySem PySem.W PyProof.Rows
set_option maxHeartbeats 0 in
theorem PySem.Challenge.cw_partedweb_k24_what_shares_are_holds : PySem.Challenge.rw_partedweb_k24_what_shares_are.Holds := by
  w_on; o_law; k_head; (case hw => w_witness2)
  k_fill
  refine Pw.walkG (l := PySem.Challenge.rw_partedweb_k24_what_shares_are) (n := 63) (k := 7) (x := "_law_script") (sp := fun w => Pw.spLaw _) rfl (by decide) rfl ⟨rfl, by decide, by decide⟩ (fun w h Y => PySem.W.kIn_of Y) ?F (fun _ _ a ns hl _ hS => ⟨a, ns, rfl, hS, hl, fun _ => rfl⟩)
  case F =>
    intro w mg fa h KX G hmg
    refine' Pw.all_mk KX G hmg ?qa_WHOLE ?ql_WHOLE ?a1 ?l1 ?c1 ?k1 ?a2 ?l2 ?c2 ?k2 ?a3 ?l3 ?c3 ?k3 ?a4 ?l4 ?c4 ?k4 ?a5 ?l5 ?c5 ?k5 ?a6 ?l6 ?c6 ?k6 ?a7 ?l7 ?c7 ?k7 ?a8 ?l8 ?c8 ?k8 ?a9 ?l9 ?c9 ?k9 ?a10 ?l10 ?c10 ?k10 ?a11 ?l11 ?c11 ?k11 ?a12 ?l12 ?c12 ?k12 ?a13 ?l13 ?c13 ?k13 ?a14 ?l14 ?c14 ?k14 ?a15 ?l15 ?c15 ?k15 ?a16 ?l16 ?c16 ?k16 ?a17 ?l17 ?c17 ?k17 ?a18 ?l18 ?c18 ?k18 ?a19 ?l19 ?c19 ?k19 ?a20 ?l20 ?c20 ?k20 ?a21 ?l21 ?c21 ?k21 ?a22 ?l22 ?c22 ?k22 ?a23 ?l23 ?c23 ?k23 ?a24 ?l24 ?c24 ?k24 ?a25 ?l25 ?c25 ?k25 ?z1 ?z2 ?z3 ?z4 ?z5 ?z6 ?z7 ?z8 ?z9 ?z10 ?z11 ?z12 ?z13 ?z14 ?z15 ?z16 ?z17 ?z18 ?z19 ?z20
    (case qa_WHOLE => k_is); (case ql_WHOLE => k_is); (case a1 => k_is); (case l1 => k_is); (case c1 => k_is); (case k1 => k_is); (case a2 => k_is); (case l2 => k_is)
    (case c2 => k_is); (case k2 => k_is); (case a3 => k_is); (case l3 => k_is); (case c3 => k_is); (case k3 => k_is); (case a4 => k_is); (case l4 => k_is)
    (case c4 => k_is); (case k4 => k_is); (case a5 => k_is); (case l5 => k_is); (case c5 => k_is); (case k5 => k_is); (case a6 => k_is); (case l6 => k_is)
    (case c6 => k_is); (case k6 => k_is); (case a7 => k_is); (case l7 => k_is); (case c7 => k_is); (case k7 => k_is); (case a8 => k_is); (case l8 => k_is)
    (case c8 => k_is); (case k8 => k_is); (case a9 => k_is); (case l9 => k_is); (case c9 => k_is); (case k9 => k_is); (case a10 => k_is); (case l10 => k_is)
    (case c10 => k_is); (case k10 => k_is); (case a11 => k_is); (case l11 => k_is); (case c11 => k_is); (case k11 => k_is); (case a12 => k_is); (case l12 => k_is)
    (case c12 => k_is); (case k12 => k_is); (case a13 => k_is); (case l13 => k_is); (case c13 => k_is); (case k13 => k_is); (case a14 => k_is); (case l14 => k_is)
    (case c14 => k_is); (case k14 => k_is); (case a15 => k_is); (case l15 => k_is); (case c15 => k_is); (case k15 => k_is); (case a16 => k_is); (case l16 => k_is)
    (case c16 => k_is); (case k16 => k_is); (case a17 => k_is); (case l17 => k_is); (case c17 => k_is); (case k17 => k_is); (case a18 => k_is); (case l18 => k_is)
    (case c18 => k_is); (case k18 => k_is); (case a19 => k_is); (case l19 => k_is); (case c19 => k_is); (case k19 => k_is); (case a20 => k_is); (case l20 => k_is)
    (case c20 => k_is); (case k20 => k_is); (case a21 => k_is); (case l21 => k_is); (case c21 => k_is); (case k21 => k_is); (case a22 => k_is); (case l22 => k_is)
    (case c22 => k_is); (case k22 => k_is); (case a23 => k_is); (case l23 => k_is); (case c23 => k_is); (case k23 => k_is); (case a24 => k_is); (case l24 => k_is)
    (case c24 => k_is); (case k24 => k_is); (case a25 => k_is); (case l25 => k_is); (case c25 => k_is); (case k25 => k_is); (case z1 => k_is); (case z2 => k_is)
    (case z3 => k_is); (case z4 => k_is); (case z5 => k_is); (case z6 => k_is); (case z7 => k_is); (case z8 => k_is); (case z9 => k_is); (case z10 => k_is)
    (case z11 => k_is); (case z12 => k_is); (case z13 => k_is); (case z14 => k_is); (case z15 => k_is); (case z16 => k_is); (case z17 => k_is); (case z18 => k_is)
    (case z19 => k_is); (case z20 => k_is)
