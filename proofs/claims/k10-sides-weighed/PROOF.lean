import PyProof.Rows.All
import Wide.All
import OpenK.AllK
import Wide.FinOn
import HandS.ForMost
import HandS.Evl
import HandS.SortInts
import HandS.IsInst
import HandS.SetFor
import HandS.Sort
import HandS.TupAny
import HandS.Wide
import KE.SortData
import KE.KEqSeq
import PyProof.P3Eq
import KE.KDictCopyH
import PyProof.ListRange
import PySem.Challenge.RW_partedweb_k10_sides_weighed
set_option Elab.async false
set_option linter.all false
set_option maxRecDepth 100000
set_option maxHeartbeats 8000000
/-! ## PwRules -/
namespace Pw
open PySem PySem.Spec PyProof.Rows L2 PySem.W
abbrev AIs {α β : Type} := @PySem.W.EachIs α β

/-! ### rules that the layer lacks -/
section
variable {X : Cx}
/-- one thing or the other, the first reading or the second -/
theorem pi_or {tg iter : Expr} {w1 w2 : TI} (h1 : PI X tg iter w1) (h2 : PI X tg iter w2) : PI X tg iter (fun σ H R => w1 σ H R ∨ w2 σ H R) :=
  ⟨fun pins s σ H R I h => h.elim (h1.run pins s σ H R I) (h2.run pins s σ H R I)⟩
theorem pe_or2 {e : Expr} {t1 t2 : TE} (h1 : PE X e t1) (h2 : PE X e t2) : PE X e (fun σ H Q => t1 σ H Q ∨ t2 σ H Q) :=
  ⟨fun pins s σ H Q I h => h.elim (h1.run pins s σ H Q I) (h2.run pins s σ H Q I)⟩
theorem callR_or {f : Value} {r1 r2 : List V → Hp → VK → Prop} (h1 : CallR X f r1) (h2 : CallR X f r2) : CallR X f (fun vs H Q => r1 vs H Q ∨ r2 vs H Q) :=
  fun pins s σ H xs us Q I r h => h.elim (h1 pins s σ H xs us Q I r) (h2 pins s σ H xs us Q I r)
theorem opR_or {f : Value → Value → Sem Value} {r1 r2 : R2} (h1 : OpR X f r1) (h2 : OpR X f r2) : OpR X f (fun x y H Q => r1 x y H Q ∨ r2 x y H Q) :=
  fun pins s σ H x y u v Q I rx ry h => h.elim (h1 pins s σ H x y u v Q I rx ry) (h2 pins s σ H x y u v Q I rx ry)

theorem cr_range1 : CallR X (.type "range") (fun vs H Q => ∃ j, vs = [V.int j] ∧ ∀ p, H p = none → Q (.ref p) (upd H p (.rng 0 j))) := by
  intro pins s σ H vs us Q I r h
  obtain ⟨j, rfl, q⟩ := h
  obtain ⟨u1, rfl, rj⟩ := vals1 r
  obtain ⟨u, rfl⟩ := rj
  refine call_range_1 ⟨.ref s.heap.objs.size, upd H s.heap.objs.size (.rng 0 j), I.laid (t' := s.toks + 2) (fun b o e => Heap.get?_push_of_some _ e) (Nat.le_refl _) ?_, rfl, q _ (I.hok.fresh (Nat.le_refl _))⟩
  exact ⟨s.toks, u, s.toks + 1, Heap.get?_push_size _ rfl⟩

theorem rangeSize1 {a b : Int} : Builtin.Range.rangeSize a b 1 = ((b - a).toNat : Int) := by
  unfold Builtin.Range.rangeSize
  rw [if_pos (by decide)]
  by_cases h : a < b
  · rw [if_pos h]; omega
  · rw [if_neg h]; omega


theorem paired_of {α β : Type} {F : α → β → Prop} : ∀ {xs : List α} {ys : List β}, xs.length = ys.length → (∀ (i : Nat) x y, xs[i]? = some x → ys[i]? = some y → F x y) → Paired F xs ys
  | [], [], _, _ => .nil
  | [], _ :: _, h, _ => by simp at h
  | _ :: _, [], h, _ => by simp at h
  | x :: xs, y :: ys, h, g => .cons (g 0 x y rfl rfl) (paired_of (by simpa using h) fun i a b ha hb => g (i + 1) a b (by simpa using ha) (by simpa using hb))

/-- list(range(..)) -/
theorem call_list_rng (hh : X.calm = true) : CallR X (.type "list") (fun vs H Q => ∃ (r : Addr) (a b : Int), vs = [V.ref r] ∧ H r = some (.rng a b) ∧ -(2 ^ 61) ≤ a ∧ a < 2 ^ 61 ∧ -(2 ^ 61) ≤ b ∧ b < 2 ^ 61 ∧ (b - a).toNat ≤ 100000 ∧
    ∀ p, H p = none → Q (.ref p) (upd H p (.lst ((List.range (b - a).toNat).map fun (i : Nat) => V.int (a + (i : Int)))))) := by
  intro pins s σ H vs us Q I rr h
  obtain ⟨r, a, b, rfl, hr, h1, h2, h3, h4, hn, q⟩ := h
  obtain ⟨u, rfl, ru⟩ := vals1 rr
  cases ru
  obtain ⟨t, u, v, ho⟩ := (show ObjOk X.prog X.w H s.heap r (.rng a b) from I.hok r _ hr)
  refine call_list_range (I.ok.hd hh) (a := a) (b := b) (c := 1) (t := t) (u := u) (v := v) (n := (b - a).toNat) ho ?_ rangeSize1 (by omega) fun h' tk acc' c' hk hS hI => ?_
  · unfold Builtin.Range.small
    rw [rangeSize1]
    simp only [Builtin.Range.rangeFitsLong, Bool.and_eq_true, Bool.or_eq_true, decide_eq_true_eq, if_pos (show (1 : Int) > 0 by decide)]
    refine ⟨⟨⟨⟨?_, ?_⟩, ?_⟩, ?_⟩, Or.inr ?_⟩ <;> omega
  · refine ⟨.ref s.heap.objs.size, _, I.laid (t' := tk) hk (Nat.le_refl _) (o := .lst ((List.range (b - a).toNat).map fun (i : Nat) => V.int (a + (i : Int)))) ⟨?_, acc'.toList, c', ?_, ?_⟩, rfl, q _ (I.hok.fresh (Nat.le_refl _))⟩
    · rw [List.length_map, List.length_range]
      exact Nat.le_trans hn (by decide)
    · refine paired_of ?_ fun j x y hx hy => ?_
      · rw [List.length_map, List.length_range, Array.length_toList, hI.1]
      · rw [List.getElem?_map] at hx
        obtain ⟨i, hi, rfl⟩ := Option.map_eq_some_iff.mp hx
        have e := List.getElem?_eq_some_iff.mp hi
        obtain ⟨e1, e2⟩ := e
        rw [List.getElem_range] at e2
        subst e2
        obtain ⟨tk, ey⟩ := hI.2 j y (by rw [← Array.getElem?_toList]; exact hy)
        exact ⟨tk, by rw [ey, Int.mul_one]⟩
    · rw [Array.toArray_toList]; exact hS

/-! ### [truths].count(truth) -/
def eqb (k : Bool) (v : Value) : Bool := match v with
  | .bool n => n == k
  | _ => false
theorem mt_lcountB : MtR X "list.count" (fun x xs H Q => ∃ (p : Addr) (ns : List Bool) (k : Bool), x = .ref p ∧ xs = [.bl k] ∧ SqL X.K H p (ns.map V.bl) ∧ Q (.int (ns.count k : Nat)) H) := by
  intro pins s σ H x xs v us Q I rx rxs h
  obtain ⟨p, ns, k, rfl, rfl, hs, q⟩ := h
  cases rx
  obtain ⟨u, rfl, ru⟩ := rxs.one
  cases (show u = Value.bool k from ru)
  obtain ⟨its, rv, ⟨⟨cls, dd, data, sl⟩, n, ho, hc, hdn, hd⟩, hlen⟩ := I.list hs
  simp only at hc hd
  subst hc hd
  have hb : ∀ y ∈ its, ∃ b, y = Value.bool b := by
    intro y hy
    obtain ⟨i, hi, e⟩ := List.mem_iff_getElem.mp hy
    have e1 : its[i]? = some y := by rw [List.getElem?_eq_getElem hi, e]
    have hl := rv.length
    obtain ⟨u, e2, e3⟩ := rv.get (i := i) (x := (ns.map V.bl)[i]'(by omega)) (List.getElem?_eq_getElem _)
    rw [e1] at e2
    cases e2
    rw [List.getElem_map] at e3
    exact ⟨_, e3⟩
  have hcount : ∀ {ns : List Bool} {its : List Value}, Vals (ns.map V.bl) its → its.countP (eqb k) = ns.count k := by
    intro ns
    induction ns with
    | nil => intro its r; cases r; rfl
    | cons b bs ih =>
      intro its r
      cases r with
      | cons r1 r2 =>
        cases (show _ = Value.bool b from r1)
        rw [List.countP_cons, List.count_cons, ih r2] <;> rfl
  refine call_meets PySem.F.slot_list_count ⟨_, ho, rfl⟩ PySem.F.entry_list_count (PySem.F.args_list_count_2 _ _)
    (SeqAt.list_countAt p its.toArray n dd sl (.bool k) (eqb k)) ⟨ho, fun y hy => ?_, ?_⟩
  · obtain ⟨b, rfl⟩ := hb y (by simpa using hy)
    exact SeqAt.EqAt.bool_bool b k
  · refine ⟨.int (ns.count k : Nat), H, I.tok _, ⟨s.toks, ?_⟩, q⟩
    show Value.int ((its.toArray.toList.countP (eqb k) : Nat) : Int) s.toks = Value.int ((ns.count k : Nat) : Int) s.toks
    rw [show its.toArray.toList = its by simp, hcount rv]

/-! ### sorted of tuples of ints -/
def encTI (b : Addr × List Int) : PyData := .tuple (b.2.map .int)
abbrev leTI (b c : Addr × List Int) : Bool := dataLe false encTI b c
theorem reads_ints {h : Heap} : ∀ {ns : List Int} {its : List Value}, Vals (ns.map V.int) its → ReadsAll h its (ns.map .int) []
  | [], _, r => by cases r; exact .nil
  | n :: ns, _, r => by
    cases r with
    | cons r1 r2 =>
      obtain ⟨t, rfl⟩ := r1
      exact ReadsAll.cons (as := []) (bs := []) (.int n t) (reads_ints r2)
theorem reads_ti {h : Heap} {t : Addr} {ns : List Int} {its : List Value} (ht : IsTup h t its.toArray) (r : Vals (ns.map V.int) its) : Reads h (.ref t) (.tuple (ns.map .int)) [] := by
  obtain ⟨o, ho, hc, n, hd⟩ := ht
  exact Reads.tuple ho hc hd (by simpa using reads_ints r)
theorem alike_enc (b c : Addr × List Int) : alike (encTI b) (encTI c) = true := by
  show alikeAll _ _ = true
  exact alike_ints _ _
theorem depth_enc (b : Addr × List Int) : (encTI b).depth ≤ 1 := by
  unfold encTI
  rw [PyData.depth, depth_ints]
  all_goals omega
theorem each_ti {s : Shared} {pins : List (Addr × Obj)} {σ : L2.St} {H : Hp} (I : L2.Inv X pins σ H s) : ∀ {bs : List (Addr × List Int)}, (∀ b ∈ bs, SqT X.K H b.1 (b.2.map V.int)) → EachIs (fun v b => ∃ as, Reads s.heap v (encTI b) as ∧ as = []) (bs.map fun b => Value.ref b.1) bs
  | [], _ => .nil
  | b :: bs, h => by
    refine .cons ?_ (each_ti I fun c hc => h c (List.mem_cons_of_mem _ hc))
    obtain ⟨its, r, ht, _⟩ := I.tuple (h b List.mem_cons_self)
    exact ⟨[], reads_ti ht r, rfl⟩
theorem each_id : ∀ {bs : List (Addr × List Int)}, EachIs (fun (v : Value) (b : Addr × List Int) => v = .ref b.1) (bs.map fun b => Value.ref b.1) bs
  | [] => .nil
  | _ :: _ => .cons rfl each_id
theorem each_out : ∀ {out : List Value} {bs : List (Addr × List Int)}, EachIs (fun (v : Value) (b : Addr × List Int) => v = .ref b.1) out bs → out = bs.map fun b => Value.ref b.1
  | _, _, .nil => rfl
  | _, _, .cons h t => by rw [h, each_out t]; rfl
theorem vals_refs : ∀ {bs : List (Addr × List Int)}, Vals (bs.map fun b => V.ref b.1) (bs.map fun b => Value.ref b.1)
  | [] => .nil
  | _ :: _ => .cons rfl vals_refs
theorem vals_refs_eq : ∀ {bs : List (Addr × List Int)} {its : List Value}, Vals (bs.map fun b => V.ref b.1) its → its = bs.map fun b => Value.ref b.1
  | [], _, r => by cases r; rfl
  | b :: bs, _, r => by
    cases r with
    | cons r1 r2 => rw [show _ = Value.ref b.1 from r1, vals_refs_eq r2]; rfl

/-- sorted(xs), xs a list of tuples of ints -/
theorem cr_sortedTI (hu : X.A.units + 64 < cLine) : CallR X (.builtin "sorted") (fun vs H Q => ∃ (a : Addr) (bs : List (Addr × List Int)), vs = [V.ref a] ∧ SqL X.K H a (bs.map fun b => V.ref b.1) ∧ (∀ b ∈ bs, b.2 ≠ [] ∧ SqT X.K H b.1 (b.2.map V.int)) ∧
    ∀ p, H p = none → Q (.ref p) (upd H p (.lst ((bs.mergeSort leTI).map fun b => V.ref b.1)))) := by
  intro pins s σ H vs us Q I r h
  obtain ⟨a, bs, rfl, hl, hb, q⟩ := h
  obtain ⟨u, rfl, ru⟩ := vals1 r
  cases ru
  obtain ⟨its, rv, pl, hz⟩ := I.list hl
  have e := vals_refs_eq rv
  subst e
  rw [List.length_map] at hz
  refine sorted_data (R := fun v b => v = .ref b.1) (enc := encTI) (bs := bs) pl.isList each_id ((each_ti I fun b hb' => (hb b hb').2).mono fun _ _ ⟨as, h, _⟩ => ⟨as, h⟩) (.of fun b c => alike_enc b c) ?_ hz (fun b _ => ?_) fun out ho eo => ?_
  · refine .inl fun d hd => ?_
    obtain ⟨b, hb', rfl⟩ := List.mem_map.mp hd
    have h0 := (hb b hb').1
    unfold encTI
    cases e : b.2 with
    | nil => exact absurd e h0
    | cons x r => exact ⟨_, _, rfl⟩
  · have := depth_enc b
    omega
  · have e := each_out eo
    subst e
    obtain ⟨c, hc⟩ := sortedAll_at s.heap (bs.map fun b => Value.ref b.1) ((bs.mergeSort (dataLe false encTI)).map fun b => Value.ref b.1).toArray
    refine ⟨.ref (s.heap.objs.size + 1), _, I.laid (t' := s.toks) (fun b o => sortedAll_old) (Nat.le_succ _) (o := .lst ((bs.mergeSort leTI).map fun b => V.ref b.1)) ⟨?_, _, c, vals_refs, hc⟩, rfl, q _ (I.hok.fresh (Nat.le_succ _))⟩
    rw [List.length_map, List.length_mergeSort]
    exact hz

theorem kt_split {H : Hp} : ∀ {kvs : List (List Key × V)} {xs : List (List Key × Addr × Value)} {ks : List (List Int)}, KT H kvs xs → kvs.map (·.1) = ks.map (·.map Sum.inl) →
    ∃ bs : List (Addr × List Int), bs.map (·.2) = ks ∧ bs.map (·.1) = xs.map (·.2.1) ∧ ∀ b ∈ bs, H b.1 = some (.tup (b.2.map V.int))
  | _, _, [], .nil, _ => ⟨[], rfl, rfl, fun b hb => by cases hb⟩
  | _, _, _ :: _, .nil, e => by simp at e
  | _, _, [], .cons _ _, e => by simp at e
  | (k, v) :: kvs, (k', a, u) :: xs, n :: ns, .cons h t, e => by
    simp only [List.map_cons, List.cons.injEq] at e
    obtain ⟨bs, e1, e2, e3⟩ := kt_split t e.2
    refine ⟨(a, n) :: bs, by rw [List.map_cons, e1], by rw [List.map_cons, List.map_cons, e2], fun b hb => ?_⟩
    rcases List.mem_cons.mp hb with rfl | hb
    · have h2 : H a = some (.tup (k.map kV)) := h.2.1
      rw [e.1] at h2
      rw [h2, List.map_map]
      rfl
    · exact e3 b hb

/-- sorted(d), d a dict whose keys are tuples of ints -/
theorem cr_sortedDT (hcalm : X.calm = true) (hu : X.A.units + 64 < cLine) : CallR X (.builtin "sorted") (fun vs H Q => ∃ (a : Addr) (kvs : List (List Key × V)) (ks : List (List Int)), vs = [V.ref a] ∧ Rd H a (.dT kvs) ∧ kvs.map (·.1) = ks.map (·.map Sum.inl) ∧ (∀ k ∈ ks, k ≠ []) ∧
    ∀ (bs : List (Addr × List Int)) p, bs.map (·.2) = ks → (∀ b ∈ bs, H b.1 = some (.tup (b.2.map V.int))) → H p = none → Q (.ref p) (upd H p (.lst ((bs.mergeSort leTI).map fun b => V.ref b.1)))) := by
  intro pins s σ H vs us Q I r h
  obtain ⟨a, kvs, ks, rfl, hd, hks, hne, q⟩ := h
  obtain ⟨u, rfl, rx⟩ := vals1 r
  cases rx
  obtain ⟨z, lo, xs, rel, o, es, ep, ho, hex, hdat, hes, hkk, hnd⟩ := dt_rd I.hok hd
  obtain ⟨bs, e1, e2, e3⟩ := kt_split rel hks
  have hlen : es.size = bs.length := by
    have e := congrArg List.length e2
    rw [List.length_map, List.length_map] at e
    rw [← Array.length_toList, hes, List.length_map, e]
  have hl2 : kvs.length = bs.length := by
    have e := congrArg List.length hks
    have e' := congrArg List.length e1
    simp only [List.length_map] at e e'
    omega
  refine Calls.call_function_entry PyProof.Rows.kind_sorted PyProof.Rows.plain_sorted PyProof.Rows.entry_sorted (PyProof.Rows.args_sorted1 _) ?_
  unfold Builtin.«sorted»
  refine wpAny_bind (m := checkCount "sorted" 1 1 _) (wpAny_pure ?_)
  refine wpAny_bind (PySem.W.kdu_collect (A := X.A.in1) (KdlSrc.rawDict (es := es) (ep := ep) lo) (I.ok.hd hcalm) ⟨o, ho, hex, hdat⟩ (by omega) fun h' tk acc hk hacc => ?_)
  have hacc2 : acc.toList = bs.map fun b => Value.ref b.1 := by
    refine List.ext_getElem? fun i => ?_
    rw [List.getElem?_map]
    by_cases hi : i < bs.length
    · obtain ⟨v, hv⟩ : ∃ v, acc[i]? = some v := ⟨acc[i]'(by rw [hacc.1]; omega), Array.getElem?_eq_getElem _⟩
      obtain ⟨hi2, e⟩ := hacc.2 i v hv
      rw [Array.getElem?_toList, hv, e]
      have e4 : es.toList[i]? = some es[i] := by rw [Array.getElem?_toList, Array.getElem?_eq_getElem hi2]
      rw [hes, List.getElem?_map] at e4
      obtain ⟨x, hx, ex⟩ := Option.map_eq_some_iff.mp e4
      have e5 : (bs.map (·.1))[i]? = some x.2.1 := by rw [e2, List.getElem?_map, hx]; rfl
      rw [List.getElem?_map] at e5
      obtain ⟨b, hb, eb⟩ := Option.map_eq_some_iff.mp e5
      rw [hb, ← ex]
      show some (Value.ref x.2.1) = some (Value.ref b.1)
      rw [eb]
    · rw [List.getElem?_eq_none (by rw [Array.length_toList, hacc.1]; omega), List.getElem?_eq_none (by omega)]
      rfl
  have I1 : Inv X pins σ H { s with heap := h', toks := tk } := I.kept hk
  rw [hacc2]
  refine wpAny_bind (wpAny_newList ?_ (by rw [List.length_map]; omega))
  have hoL : (h'.push (seqObj "list" (bs.map fun b => Value.ref b.1).toArray 0)).get? h'.objs.size = some (seqObj "list" (bs.map fun b => Value.ref b.1).toArray 0) := Heap.get?_push_size _ rfl
  show wpAny _ _ _ _ _ { s with heap := h'.push (seqObj "list" (bs.map fun b => Value.ref b.1).toArray 0), toks := tk }
  have I2 : Inv X pins σ H { s with heap := h'.push (seqObj "list" (bs.map fun b => Value.ref b.1).toArray 0), toks := tk } := I1.kept (t' := tk) fun b u z => Heap.get?_push_of_some _ z
  refine wpAny_bind (wpAny_holding (list_sort_data (R := fun v b => v = .ref b.1) (enc := encTI) (bs := bs) hoL each_id ((each_ti I2 fun b hb' => .inl (.inl (e3 b hb'))).mono fun _ _ ⟨as, h, e⟩ => ⟨as, h, by rw [e]; exact List.not_mem_nil⟩) (.of fun b c => alike_enc b c) ?_ (by omega) (fun b _ => ?_) fun out hout eo => ?_))
  · refine .inl fun d hd => ?_
    obtain ⟨b, hb', rfl⟩ := List.mem_map.mp hd
    have h0 : b.2 ≠ [] := hne _ (by rw [← e1]; exact List.mem_map.mpr ⟨b, hb', rfl⟩)
    unfold encTI
    cases e : b.2 with
    | nil => exact absurd e h0
    | cons x r => exact ⟨_, _, rfl⟩
  · have := depth_enc b
    show X.A.units + 1 + 1 + (encTI b).depth < cLine
    omega
  · have e := each_out eo
    subst e
    obtain ⟨e', he'⟩ := PyProof.Rows.sortedHeap_at (vs := bs.map fun b => Value.ref b.1) (out := ((bs.mergeSort (dataLe false encTI)).map fun b => Value.ref b.1).toArray) hoL
    refine wpAny_pure ⟨_, rfl, .ref h'.objs.size, upd H h'.objs.size (.lst ((bs.mergeSort leTI).map fun b => V.ref b.1)), I1.laid (t' := tk) (fun b u e => ?_) (Nat.le_refl _)
      (show ObjOk X.prog X.w _ _ _ (.lst ((bs.mergeSort leTI).map fun b => V.ref b.1)) from ⟨?_, _, e', vals_refs, he'⟩), rfl, q bs _ e1 e3 (I1.hok.fresh (Nat.le_refl _))⟩
    · have hb : b < h'.objs.size := Heap.lt_size e
      rw [PyProof.Rows.sortedHeap_old (Nat.ne_of_lt hb) (by rw [size_push']; exact Nat.lt_succ_of_lt hb)]
      exact Heap.get?_push_of_some _ e
    · rw [List.length_map, List.length_mergeSort]
      omega
end
end Pw

/-! ## PwBase -/
namespace Pw
open PySem L2 Evl

/-! ### heaps: all but some objects is as it was -/
def Xs (S : List Addr) (H H' : Hp) : Prop := ∀ a o, a ∉ S → H a = some o → H' a = some o
theorem Xs.refl {S : List Addr} {H : Hp} : Xs S H H := fun _ _ _ h => h
theorem Xs.trans {S : List Addr} {H H1 H2 : Hp} (x : Xs S H H1) (y : Xs S H1 H2) : Xs S H H2 := fun a o n h => y a o n (x a o n h)
theorem Xs.of {S : List Addr} {H H' : Hp} (e : Ex H H') : Xs S H H' := fun a o _ h => e a o h
theorem Xs.weak {S T : List Addr} {H H' : Hp} (x : Xs S H H') (h : ∀ a ∈ S, a ∈ T) : Xs T H H' := fun a o n e => x a o (fun m => n (h a m)) e
theorem Xs.put {S : List Addr} {H H' : Hp} {a : Addr} {o : HO} (x : Xs S H H') (h : a ∈ S) : Xs S H (upd H' a o) := fun b u n e => by
  rw [upd_ne (fun z => n (by rw [z]; exact h))]
  exact x b u n e
theorem Xs.new {S : List Addr} {H H' : Hp} {p : Addr} {o : HO} (x : Xs S H H') (h : H' p = none) : Xs S H (upd H' p o) := fun b u n e => by
  have e1 := x b u n e
  rw [upd_ne (ne_of_none e1 h)]
  exact e1
theorem Xs.ex {S : List Addr} {B H H' : Hp} (x : Xs S H H') (e : Ex B H) (n : ∀ a ∈ S, B a = none) : Ex B H' := fun a o h => x a o (fun m => by rw [n a m] at h; cases h) (e a o h)
theorem Xs.ex1 {b : Addr} {B H H' : Hp} (x : Xs [b] H H') (e : Ex B H) (n : B b = none) : Ex B H' := x.ex e fun a m => by
  rw [List.mem_singleton.mp m]
  exact n
/-- the heap without some objects -/
def mi (H : Hp) (S : List Addr) : Hp := fun a => if a ∈ S then none else H a
theorem mi_ex {H : Hp} {S : List Addr} : Ex (mi H S) H := fun a o h => by
  unfold mi at h
  by_cases m : a ∈ S
  · rw [if_pos m] at h; cases h
  · rw [if_neg m] at h; exact h
theorem mi_no {H : Hp} {S : List Addr} {a : Addr} (m : a ∈ S) : mi H S a = none := by unfold mi; rw [if_pos m]
theorem mi_at {H : Hp} {S : List Addr} {a : Addr} (m : a ∉ S) : mi H S a = H a := by unfold mi; rw [if_neg m]
theorem ex_mi {B H : Hp} {S : List Addr} (e : Ex B H) (n : ∀ a ∈ S, B a = none) : Ex B (mi H S) := fun a o h => by
  rw [mi_at (fun m => by rw [n a m] at h; cases h)]
  exact e a o h
theorem ex_mi1 {B H : Hp} {b : Addr} (e : Ex B H) (n : B b = none) : Ex B (mi H [b]) := ex_mi e fun a m => by
  rw [List.mem_singleton.mp m]
  exact n
theorem mi_no1 {H : Hp} {b : Addr} : mi H [b] b = none := mi_no (List.mem_singleton.mpr rfl)
theorem ex_upd {B H : Hp} {a : Addr} {o : HO} (e : Ex B H) (n : B a = none) : Ex B (upd H a o) := fun b u h => by
  rw [upd_ne (fun z => by rw [z, n] at h; cases h)]
  exact e b u h

/-! ### data -/
mutual
theorem Dp.mono {K : PySem.W.Frag} {H H' : Hp} (e : Ex H H') : ∀ {v : V} {d : PyData}, Dp K H v d → Dp K H' v d
  | _, _, .non => .non
  | _, _, .bl b => .bl b
  | _, _, .int i => .int i
  | _, _, .str x => .str x
  | _, _, .lst h a => .lst (ex_l e h) (DpAll.mono e a)
  | _, _, .tup h a => .tup (ex_t e h) (DpAll.mono e a)
theorem DpAll.mono {K : PySem.W.Frag} {H H' : Hp} (e : Ex H H') : ∀ {vs : List V} {ds : List PyData}, DpAll K H vs ds → DpAll K H' vs ds
  | _, _, .nil => .nil
  | _, _, .cons h t => .cons (Dp.mono e h) (DpAll.mono e t)
end
section
variable {K : PySem.W.Frag} {H : Hp}
theorem DpAll.length : ∀ {vs : List V} {ds : List PyData}, DpAll K H vs ds → vs.length = ds.length
  | _, _, .nil => rfl
  | _, _, .cons _ t => by rw [List.length_cons, List.length_cons, DpAll.length t]
theorem DpAll.get : ∀ {vs : List V} {ds : List PyData} {i : Nat} {v : V}, DpAll K H vs ds → vs[i]? = some v → ∃ d, ds[i]? = some d ∧ Dp K H v d
  | _, _, _, _, .nil, e => by simp at e
  | _, _, 0, v, .cons h _, e => by
    simp only [List.getElem?_cons_zero, Option.some.injEq] at e
    exact ⟨_, rfl, e ▸ h⟩
  | _, _, i + 1, v, .cons _ t, e => by
    obtain ⟨d, h1, h2⟩ := DpAll.get (i := i) t (by simpa using e)
    exact ⟨d, by simpa using h1, h2⟩
theorem DpAll.getd : ∀ {vs : List V} {ds : List PyData} {i : Nat} {d : PyData}, DpAll K H vs ds → ds[i]? = some d → ∃ v, vs[i]? = some v ∧ Dp K H v d
  | _, _, _, _, .nil, e => by simp at e
  | _, _, 0, d, .cons h _, e => by
    simp only [List.getElem?_cons_zero, Option.some.injEq] at e
    exact ⟨_, rfl, e ▸ h⟩
  | _, _, i + 1, d, .cons _ t, e => by
    obtain ⟨v, h1, h2⟩ := DpAll.getd (i := i) t (by simpa using e)
    exact ⟨v, by simpa using h1, h2⟩
theorem DpAll.snoc : ∀ {vs : List V} {ds : List PyData} {v : V} {d : PyData}, DpAll K H vs ds → Dp K H v d → DpAll K H (vs ++ [v]) (ds ++ [d])
  | _, _, _, _, .nil, h => .cons h .nil
  | _, _, _, _, .cons h t, h2 => .cons h (DpAll.snoc t h2)
theorem DpAll.ints : ∀ {ns : List Int}, DpAll K H (ns.map V.int) (ns.map PyData.int)
  | [] => .nil
  | n :: ns => .cons (.int n) DpAll.ints
theorem DpAll.ints_eq : ∀ {ns : List Int} {vs : List V}, DpAll K H vs (ns.map PyData.int) → vs = ns.map V.int
  | [], _, h => by cases h; rfl
  | n :: ns, _, h => by
    cases h with
    | cons h1 h2 =>
      cases h1
      rw [DpAll.ints_eq h2]
      rfl
end

/-! ### the law's box of draws -/
def BoxAt (H : Hp) (b : Addr) (c : Nat) : Prop := ∃ x y z : Int, H b = some (.lst [.int x, .int y, .int z]) ∧ 0 ≤ x ∧ 0 ≤ y ∧ y < 2 ^ 62 ∧ 0 ≤ z ∧ z ≤ (c : Int)
theorem BoxAt.mono {H : Hp} {b : Addr} {c d : Nat} (h : BoxAt H b c) (hc : c ≤ d) : BoxAt H b d := by
  obtain ⟨x, y, z, h1, h2, h3, h4, h5, h6⟩ := h
  exact ⟨x, y, z, h1, h2, h3, h4, h5, by omega⟩
theorem BoxAt.ex {H H' : Hp} {b : Addr} {c : Nat} (e : Ex H H') (h : BoxAt H b c) : BoxAt H' b c := by
  obtain ⟨x, y, z, h1, r⟩ := h
  exact ⟨x, y, z, e _ _ h1, r⟩
theorem BoxAt.upd {H : Hp} {b p : Addr} {c : Nat} {o : HO} (h : BoxAt H b c) (n : b ≠ p) : BoxAt (upd H p o) b c := by
  obtain ⟨x, y, z, h1, r⟩ := h
  exact ⟨x, y, z, by rw [upd_ne n]; exact h1, r⟩
theorem BoxAt.some {H : Hp} {b : Addr} {c : Nat} (h : BoxAt H b c) : ∃ o, H b = some o := by
  obtain ⟨x, y, z, h1, _⟩ := h
  exact ⟨_, h1⟩
theorem BoxAt.ne {H : Hp} {b p : Addr} {c : Nat} (h : BoxAt H b c) (n : H p = none) : b ≠ p := by
  obtain ⟨o, e⟩ := h.some
  exact ne_of_none e n
/-- what drawing does: the box alone is otherwise -/
structure Bx (b : Addr) (c : Nat) (H H' : Hp) : Prop where
  x : Xs [b] H H'
  at_ : BoxAt H' b c
theorem Bx.trans {b : Addr} {c d : Nat} {H H1 H2 : Hp} (h1 : Bx b c H H1) (h2 : Bx b d H1 H2) : Bx b d H H2 := ⟨h1.x.trans h2.x, h2.at_⟩
theorem Bx.refl {b : Addr} {c : Nat} {H : Hp} (h : BoxAt H b c) : Bx b c H H := ⟨Xs.refl, h⟩
theorem Bx.mono {b : Addr} {c d : Nat} {H H' : Hp} (h : Bx b c H H') (hc : c ≤ d) : Bx b d H H' := ⟨h.x, h.at_.mono hc⟩
theorem Bx.ext {b : Addr} {c : Nat} {H H1 H2 : Hp} (h : Bx b c H H1) (e : Ex H1 H2) : Bx b c H H2 := ⟨h.x.trans (Xs.of e), h.at_.ex e⟩
theorem Bx.pre {b : Addr} {c : Nat} {H H1 H2 : Hp} (e : Ex H H1) (h : Bx b c H1 H2) : Bx b c H H2 := ⟨(Xs.of e).trans h.x, h.at_⟩
theorem Bx.free {b p : Addr} {c : Nat} {H H' : Hp} (h : Bx b c H H') (n : H' p = none) : H p = none := by
  cases e : H p with
  | none => rfl
  | some o =>
    by_cases m : p = b
    · subst m
      obtain ⟨u, e2⟩ := h.at_.some
      rw [e2] at n
      cases n
    · rw [h.x p o (fun q => m (List.mem_singleton.mp q)) e] at n
      cases n
theorem Bx.at {b p : Addr} {c : Nat} {H H' : Hp} {o : HO} (h : Bx b c H H') (n : p ≠ b) (e : H p = some o) : H' p = some o := h.x p o (fun q => n (List.mem_singleton.mp q)) e

/-! ### a def of the text -/
structure Dfn (K : PySem.W.Frag) (mg : Str → Option Value) (x : Str) (st : Stmt) (ps : List Str) (f : Addr) (fd : FuncData) : Prop where
  F : Fun K x x st f fd
  g : mg x = some (.ref f)
  b : Binds K fd ps []
end Pw

/-! ## PwWeb -/
namespace Pw
open PySem L2 Evl PySem.W

/-! ### webs -/
abbrev Tie := Int × Int × Int
def tieD (t : Tie) : PyData := .tuple [.int t.1, .int t.2.1, .int t.2.2]
def webD (n : Int) (ts : List Tie) : PyData := .tuple [.int n, .tuple (ts.map tieD)]
def pairLt (s t : Tie) : Prop := s.1 < t.1 ∨ s.1 = t.1 ∧ s.2.1 < t.2.1
structure WebOk (n : Int) (ts : List Tie) : Prop where
  pos : 1 ≤ n
  tie : ∀ t ∈ ts, 0 ≤ t.1 ∧ t.1 < t.2.1 ∧ t.2.1 < n ∧ 1 ≤ t.2.2 ∧ t.2.2 ≤ 1000000000
  rise : ts.Pairwise pairLt
  len : ts.length ≤ 100

/-! ### the order of tuples of ints -/
theorem leTI_eq (b c : Addr × List Int) : leTI b c = decide (b.2 ≤ c.2) := by
  show (!dataLt (.tuple (c.2.map .int)) (.tuple (b.2.map .int))) = _
  rw [dataLt_tuple]
  show (!rowLt (c.2.map .int) (b.2.map .int)) = _
  rw [dataLt_ints]
  by_cases h : c.2 < b.2
  · have h' : ¬ b.2 ≤ c.2 := fun r => List.not_lt.mpr r h
    simp [h, h']
  · have h' : b.2 ≤ c.2 := List.not_lt.mp h
    simp [h, h']
theorem sortTI_perm (bs : List (Addr × List Int)) : (bs.mergeSort leTI).Perm bs := List.mergeSort_perm _ _
theorem sortTI_le (bs : List (Addr × List Int)) : (bs.mergeSort leTI).Pairwise (fun b c => b.2 ≤ c.2) := by
  refine (List.pairwise_mergeSort (le := leTI) (fun a b c h1 h2 => ?_) (fun a b => ?_) bs).imp fun {a b} h => ?_
  · rw [leTI_eq] at h1 h2 ⊢
    exact decide_eq_true (List.le_trans (of_decide_eq_true h1) (of_decide_eq_true h2))
  · rw [leTI_eq, leTI_eq, Bool.or_eq_true]
    rcases List.le_total a.2 b.2 with h | h
    · exact .inl (decide_eq_true h)
    · exact .inr (decide_eq_true h)
  · rw [leTI_eq] at h
    exact of_decide_eq_true h
theorem pair_le {a b c d : Int} (h : [a, b] ≤ [c, d]) : a < c ∨ a = c ∧ b ≤ d := by
  have h2 : ¬ [c, d] < [a, b] := List.not_lt.mpr h
  rw [List.cons_lt_cons_iff, List.cons_lt_cons_iff] at h2
  simp at h2
  omega

/-! ### ties in a dict -/
def kPair (a b : Int) : List Key := [.inl a, .inl b]
def TieKvs (n : Int) (kvs : List (List Key × V)) : Prop := (∀ p ∈ kvs, ∃ a b w : Int, p = (kPair a b, .int w) ∧ 0 ≤ a ∧ a < b ∧ b < n ∧ 1 ≤ w ∧ w ≤ 1000000000) ∧ (kvs.map (·.1)).Nodup
theorem TieKvs.nil {n : Int} : TieKvs n [] := ⟨(fun p h => by cases h), List.nodup_nil⟩
theorem putK_mem {κ : Type} [DecidableEq κ] {kvs : List (κ × V)} {k : κ} {v : V} {p : κ × V} (h : p ∈ putK kvs k v) : p ∈ kvs ∨ p = (k, v) := by
  unfold putK at h
  by_cases a : (kvs.any fun kv => decide (kv.1 = k)) = true
  · rw [if_pos a] at h
    obtain ⟨q, hq, rfl⟩ := List.mem_map.mp h
    by_cases e : q.1 = k
    · rw [if_pos e, e]; exact .inr rfl
    · rw [if_neg e]; exact .inl hq
  · rw [if_neg a] at h
    rcases List.mem_append.mp h with h | h
    · exact .inl h
    · exact .inr (List.mem_singleton.mp h)
theorem putK_keys {κ : Type} [DecidableEq κ] {kvs : List (κ × V)} {k : κ} {v : V} (h : (kvs.map (·.1)).Nodup) : ((putK kvs k v).map (·.1)).Nodup := by
  by_cases a : (kvs.any fun kv => decide (kv.1 = k)) = true
  · have e : (putK kvs k v).map (·.1) = kvs.map (·.1) := by
      unfold putK
      rw [if_pos a, List.map_map]
      refine List.map_congr_left fun q _ => ?_
      show (if q.1 = k then (q.1, v) else q).1 = q.1
      by_cases e : q.1 = k
      · rw [if_pos e]
      · rw [if_neg e]
    rw [e]
    exact h
  · rw [valV_any] at a
    exact nd_putK v h (by simpa using a)
theorem TieKvs.put {n a b w : Int} {kvs : List (List Key × V)} (h : TieKvs n kvs) (h1 : 0 ≤ a) (h2 : a < b) (h3 : b < n) (h4 : 1 ≤ w) (h5 : w ≤ 1000000000) : TieKvs n (putK kvs (kPair a b) (.int w)) :=
  ⟨fun p hp => (putK_mem hp).elim (h.1 p) fun e => ⟨a, b, w, e, h1, h2, h3, h4, h5⟩, putK_keys h.2⟩
theorem valV_mem {κ : Type} [DecidableEq κ] : ∀ {kvs : List (κ × V)} {p : κ × V}, (kvs.map (·.1)).Nodup → p ∈ kvs → valV kvs p.1 = some p.2
  | [], _, _, h => by cases h
  | q :: r, p, hn, h => by
    rw [List.map_cons, List.nodup_cons] at hn
    rcases List.mem_cons.mp h with rfl | h
    · exact valV_pos rfl
    · rw [valV_neg (fun e => hn.1 (by rw [e]; exact List.mem_map.mpr ⟨p, h, rfl⟩))]
      exact valV_mem hn.2 h
/-- the keys of such a dict as lists of ints -/
theorem TieKvs.keys : ∀ {n : Int} {kvs : List (List Key × V)}, (∀ p ∈ kvs, ∃ a b w : Int, p = (kPair a b, .int w) ∧ 0 ≤ a ∧ a < b ∧ b < n ∧ 1 ≤ w ∧ w ≤ 1000000000) →
    ∃ ks : List (List Int), kvs.map (·.1) = ks.map (·.map Sum.inl) ∧ ks.length = kvs.length ∧ ∀ k ∈ ks, ∃ a b, k = [a, b]
  | _, [], _ => ⟨[], rfl, rfl, fun k h => by cases h⟩
  | n, p :: r, h => by
    obtain ⟨ks, h1, h2, h3⟩ := TieKvs.keys (n := n) (kvs := r) fun q hq => h q (List.mem_cons_of_mem _ hq)
    obtain ⟨a, b, w, rfl, _⟩ := h p List.mem_cons_self
    refine ⟨[a, b] :: ks, ?_, by rw [List.length_cons, List.length_cons, h2], fun k hk => ?_⟩
    · rw [List.map_cons, List.map_cons, h1]
      rfl
    · rcases List.mem_cons.mp hk with rfl | hk
      · exact ⟨a, b, rfl⟩
      · exact h3 k hk
/-- the tie of a key -/
def tieOf (kvs : List (List Key × V)) (k : List Int) : Tie := (k.getD 0 0, k.getD 1 0, match valV kvs (k.map Sum.inl) with | some (.int w) => w | _ => 0)
theorem TieKvs.at {n : Int} {kvs : List (List Key × V)} {ks : List (List Int)} (h : TieKvs n kvs) (e : kvs.map (·.1) = ks.map (·.map Sum.inl)) {k : List Int} (hk : k ∈ ks) :
    ∃ a b w : Int, k = [a, b] ∧ valV kvs (k.map Sum.inl) = some (.int w) ∧ tieOf kvs k = (a, b, w) ∧ 0 ≤ a ∧ a < b ∧ b < n ∧ 1 ≤ w ∧ w ≤ 1000000000 := by
  have h1 : k.map Sum.inl ∈ kvs.map (·.1) := by rw [e]; exact List.mem_map.mpr ⟨k, hk, rfl⟩
  obtain ⟨p, hp, e1⟩ := List.mem_map.mp h1
  obtain ⟨a, b, w, rfl, r⟩ := h.1 p hp
  have e2 : k = [a, b] := by
    have e3 : kPair a b = k.map Sum.inl := e1
    unfold kPair at e3
    match k, e3 with
    | [x, y], e3 =>
      simp only [List.map_cons, List.map_nil, List.cons.injEq, Sum.inl.injEq] at e3
      rw [e3.1, e3.2.1]
  have e4 : valV kvs (k.map Sum.inl) = some (.int w) := by
    rw [← e1]
    exact valV_mem h.2 hp
  refine ⟨a, b, w, e2, e4, ?_, r⟩
  unfold tieOf
  rw [e4, e2]
  rfl
theorem nodup_of_map {α β : Type} (f : α → β) : ∀ {l : List α}, (l.map f).Nodup → l.Nodup
  | [], _ => List.nodup_nil
  | a :: r, h => by
    rw [List.map_cons, List.nodup_cons] at h
    exact List.nodup_cons.mpr ⟨fun m => h.1 (List.mem_map.mpr ⟨a, m, rfl⟩), nodup_of_map f h.2⟩
/-- the sorted ties of a dict are a web's -/
theorem web_of {n : Int} {kvs : List (List Key × V)} {bs : List (Addr × List Int)} (hn : 1 ≤ n) (h : TieKvs n kvs) (e : kvs.map (·.1) = (bs.map (·.2)).map (·.map Sum.inl)) (hl : kvs.length ≤ 100) :
    WebOk n ((bs.mergeSort leTI).map fun b => tieOf kvs b.2) := by
  have hm : ∀ {b : Addr × List Int}, b ∈ bs.mergeSort leTI → b.2 ∈ bs.map (·.2) := fun {b} hb => List.mem_map.mpr ⟨b, (sortTI_perm bs).mem_iff.mp hb, rfl⟩
  have hnd : (bs.map (·.2)).Nodup := by
    have h2 := h.2
    rw [e] at h2
    exact nodup_of_map _ h2
  have hnd2 : ((bs.mergeSort leTI).map (·.2)).Nodup := ((sortTI_perm bs).map (·.2)).nodup_iff.mpr hnd
  refine ⟨hn, fun t ht => ?_, ?_, ?_⟩
  · obtain ⟨b, hb, rfl⟩ := List.mem_map.mp ht
    obtain ⟨a, b', w, e1, e2, e3, r⟩ := h.at e (hm hb)
    rw [e3]
    exact r
  · rw [List.pairwise_map]
    have p1 := sortTI_le bs
    have p2 : (bs.mergeSort leTI).Pairwise (fun b c => b.2 ≠ c.2) := by
      exact List.pairwise_map.mp hnd2
    refine ((p1.and p2).imp_of_mem fun {b c} hb hc ⟨q1, q2⟩ => ?_)
    obtain ⟨x, y, w, e1, _, e3, _⟩ := h.at e (hm hb)
    obtain ⟨x', y', w', e1', _, e3', _⟩ := h.at e (hm hc)
    rw [e3, e3']
    rw [e1, e1'] at q1 q2
    have q3 := pair_le q1
    unfold pairLt
    show x < x' ∨ x = x' ∧ y < y'
    have q4 : ¬ (x = x' ∧ y = y') := fun z => q2 (by rw [z.1, z.2])
    omega
  · have e5 := congrArg List.length e
    simp only [List.length_map] at e5
    rw [List.length_map, List.length_mergeSort]
    omega

/-! ### new data -/
theorem Dp.newTup {K : PySem.W.Frag} {H : Hp} {S : List Addr} {p : Addr} {vs : List V} {ds : List PyData} (hp : H p = none) (hS : p ∉ S) (h : DpAll K (mi H S) vs ds) : Dp K (mi (upd H p (.tup vs)) S) (.ref p) (.tuple ds) := by
  refine .tup (st_of (by rw [mi_at hS]; exact upd_same)) (DpAll.mono (ex_mi ?_ fun a m => mi_no m) h)
  exact mi_ex.trans (Ex.new hp)
theorem Dp.newLst {K : PySem.W.Frag} {H : Hp} {S : List Addr} {p : Addr} {vs : List V} {ds : List PyData} (hp : H p = none) (hS : p ∉ S) (h : DpAll K (mi H S) vs ds) : Dp K (mi (upd H p (.lst vs)) S) (.ref p) (.list ds) := by
  refine .lst (sq_of (by rw [mi_at hS]; exact upd_same)) (DpAll.mono (ex_mi ?_ fun a m => mi_no m) h)
  exact mi_ex.trans (Ex.new hp)
theorem Bx.own {b d : Addr} {c : Nat} {H H' : Hp} {o : HO} (h : Bx b c H H') (n : H d = none) (nb : b ≠ d) : Bx b c H (upd H' d o) := by
  refine ⟨fun a u m e => ?_, h.at_.upd nb⟩
  rw [upd_ne (ne_of_none e n)]
  exact h.x a u m e
theorem Bx.new {b p : Addr} {c : Nat} {H H' : Hp} {o : HO} (h : Bx b c H H') (n : H' p = none) : Bx b c H (upd H' p o) := h.ext (Ex.new n)
theorem ex_mim {H H' : Hp} {S : List Addr} (e : Ex H H') : Ex (mi H S) (mi H' S) := ex_mi (mi_ex.trans e) fun a m => mi_no m
theorem ex_miw {H : Hp} {S T : List Addr} (h : ∀ a ∈ S, a ∈ T) : Ex (mi H T) (mi H S) := ex_mi mi_ex fun a m => mi_no (h a m)
end Pw

/-! ## PwEv -/
namespace Pw
open PySem L2 Evl

/-! ### worlds: what is told and stays (B), what is one's own and may change (S) -/
structure Wd (S : List Addr) (B H : Hp) : Prop where
  ex : Ex B H
  no : ∀ s ∈ S, B s = none
  at_ : ∀ s ∈ S, ∃ o, H s = some o
section
variable {S T : List Addr} {B B' H H' : Hp} {p l : Addr} {o : HO}
theorem Wd.ext (w : Wd S B H) (e : Ex H H') : Wd S B H' := ⟨w.ex.trans e, w.no, fun s m => by
  obtain ⟨o, h⟩ := w.at_ s m
  exact ⟨o, e _ _ h⟩⟩
theorem Wd.fresh (w : Wd S B H) (h : H p = none) : B p = none := fresh_back w.ex h
theorem Wd.nin (w : Wd S B H) (h : H p = none) : p ∉ S := fun m => by
  obtain ⟨o, e⟩ := w.at_ p m
  rw [h] at e
  cases e
theorem Wd.new (w : Wd S B H) (h : H p = none) : Wd S (upd B p o) (upd H p o) := by
  refine ⟨fun a u e => ?_, fun s m => ?_, fun s m => ?_⟩
  · by_cases q : a = p
    · subst q
      rw [upd_same] at e ⊢
      exact e
    · rw [upd_ne q] at e ⊢
      exact w.ex a u e
  · rw [upd_ne (fun q => w.nin h (by rw [← q]; exact m))]
    exact w.no s m
  · rw [upd_ne (fun q => w.nin h (by rw [← q]; exact m))]
    exact w.at_ s m
theorem Wd.newE (w : Wd S B H) (h : H p = none) : Ex B (upd B p o) := Ex.new (w.fresh h)
theorem Wd.own (w : Wd S B H) (h : H p = none) : Wd (p :: S) B (upd H p o) := by
  refine ⟨ex_upd w.ex (w.fresh h), fun s m => ?_, fun s m => ?_⟩
  · rcases List.mem_cons.mp m with rfl | m
    · exact w.fresh h
    · exact w.no s m
  · rcases List.mem_cons.mp m with rfl | m
    · exact ⟨_, upd_same⟩
    · rw [upd_ne (fun q => w.nin h (by rw [← q]; exact m))]
      exact w.at_ s m
theorem Wd.put (w : Wd S B H) (h : p ∈ S) : Wd S B (upd H p o) := by
  refine ⟨ex_upd w.ex (w.no p h), w.no, fun s m => ?_⟩
  by_cases q : s = p
  · rw [q]; exact ⟨_, upd_same⟩
  · rw [upd_ne q]; exact w.at_ s m
theorem Wd.weak (w : Wd S B H) (h : ∀ a ∈ T, a ∈ S) : Wd T B H := ⟨w.ex, fun s m => w.no s (h s m), fun s m => w.at_ s (h s m)⟩
theorem Wd.tail (w : Wd (l :: S) B H) : Wd S B H := w.weak fun a m => List.mem_cons_of_mem _ m
theorem Wd.back (w : Wd S B H) (e : Ex B' B) : Wd S B' H := ⟨e.trans w.ex, fun s m => fresh_back e (w.no s m), w.at_⟩
theorem Wd.give (w : Wd (l :: S) B H) (h : H l = some o) (n : l ∉ S) : Wd S (upd B l o) H := by
  refine ⟨fun a u e => ?_, fun s m => ?_, fun s m => w.at_ s (List.mem_cons_of_mem _ m)⟩
  · by_cases q : a = l
    · subst q
      rw [upd_same] at e
      rw [h]
      exact e
    · rw [upd_ne q] at e
      exact w.ex a u e
  · rw [upd_ne (fun q => n (by rw [← q]; exact m))]
    exact w.no s (List.mem_cons_of_mem _ m)
theorem Wd.giveE (w : Wd (l :: S) B H) : Ex B (upd B l o) := Ex.new (w.no l List.mem_cons_self)
end

theorem Wd.step {S : List Addr} {B H H' : Hp} (w : Wd S B H) (e : Ex H H') : Wd S (mi H' S) H' := ⟨mi_ex, fun s m => mi_no m, fun s m => (w.ext e).at_ s m⟩
theorem Wd.stepE {S : List Addr} {B H H' : Hp} (w : Wd S B H) (e : Ex H H') : Ex B (mi H' S) := ex_mi (w.ex.trans e) w.no

/-! ### what evaluates to what, made of what is told -/
def EvR (te : TE) (σ : L2.St) (B : Hp) (R : V → Hp → Prop) : Prop := ∀ S H, Wd S B H → ∀ Q : VK, (∀ v H', Ex H H' → R v (mi H' S) → Q v H') → te σ H Q
abbrev EvD (K : PySem.W.Frag) (te : TE) (σ : L2.St) (B : Hp) (d : PyData) : Prop := EvR te σ B fun v B' => Dp K B' v d
abbrev EvV (te : TE) (σ : L2.St) (B : Hp) (v : V) : Prop := EvR te σ B fun v' _ => v' = v
def EvB (tt : TT) (σ : L2.St) (B : Hp) (b : Bool) : Prop := ∀ S H, Wd S B H → ∀ Q : Bool → Hp → Prop, (∀ H', Ex H H' → Q b H') → tt σ H Q
def EvAR (ta : TA) (σ : L2.St) (B : Hp) (R : List V → Hp → Prop) : Prop := ∀ S H, Wd S B H → ∀ Q : List V → Hp → Prop, (∀ vs H', Ex H H' → R vs (mi H' S) → Q vs H') → ta σ H Q
abbrev EvAD (K : PySem.W.Frag) (ta : TA) (σ : L2.St) (B : Hp) (ds : List PyData) : Prop := EvAR ta σ B fun vs B' => DpAll K B' vs ds
/-- a relation that stays -/
def Stays {α : Type} (R : α → Hp → Prop) : Prop := ∀ v B B', Ex B B' → R v B → R v B'
theorem stays_dp {K : PySem.W.Frag} {d : PyData} : Stays fun v B => Dp K B v d := fun v B B' e h => Dp.mono e h
theorem stays_dps {K : PySem.W.Frag} {ds : List PyData} : Stays fun vs B => DpAll K B vs ds := fun v B B' e h => DpAll.mono e h
theorem stays_eq {u : V} : Stays fun v (_ : Hp) => v = u := fun _ _ _ _ h => h

section
variable {K : PySem.W.Frag} {σ : L2.St} {B B' H : Hp} {S : List Addr} {te ta tb : TE} {tt tu : TT} {tA : TA} {d d' : PyData} {ds : List PyData} {v : V} {R R' R1 R2' : V → Hp → Prop} {b c : Bool}
theorem EvR.mono (e : Ex B B') (h : EvR te σ B R) : EvR te σ B' R := fun S H w Q q => h S H (w.back e) Q q
theorem EvB.mono (e : Ex B B') (h : EvB tt σ B b) : EvB tt σ B' b := fun S H w Q q => h S H (w.back e) Q q
theorem EvAR.mono {R : List V → Hp → Prop} (e : Ex B B') (h : EvAR tA σ B R) : EvAR tA σ B' R := fun S H w Q q => h S H (w.back e) Q q
theorem EvR.imp (h : EvR te σ B R) (i : ∀ v B', R v B' → R' v B') : EvR te σ B R' := fun S H w Q q => h S H w Q fun v H' e r => q v H' e (i _ _ r)
/-- in sequence -/
theorem EvR.bind (h : EvR te σ B R) {Q : VK} (w : Wd S B H) (k : ∀ v B' H', Ex H H' → Ex B B' → Wd S B' H' → R v B' → Q v H') : te σ H Q :=
  h S H w Q fun v H' e r => k v _ H' e (w.stepE e) (w.step e) r
theorem EvB.bind (h : EvB tt σ B b) {Q : Bool → Hp → Prop} (w : Wd S B H) (k : ∀ B' H', Ex H H' → Ex B B' → Wd S B' H' → Q b H') : tt σ H Q :=
  h S H w Q fun H' e => k _ H' e (w.stepE e) (w.step e)
theorem EvAR.bind {R : List V → Hp → Prop} (h : EvAR tA σ B R) {Q : List V → Hp → Prop} (w : Wd S B H) (k : ∀ vs B' H', Ex H H' → Ex B B' → Wd S B' H' → R vs B' → Q vs H') : tA σ H Q :=
  h S H w Q fun v H' e r => k v _ H' e (w.stepE e) (w.step e) r
theorem evR_of (h : ∀ S H, Wd S B H → ∀ Q : VK, (∀ v B' H', Ex H H' → Ex B B' → Wd S B' H' → R v B' → Q v H') → te σ H Q) (st : Stays R) : EvR te σ B R := fun S H w Q q =>
  h S H w Q fun v B' H' e eB w' r => q v H' e (st _ _ _ (ex_mi w'.ex w'.no) r)
theorem evB_of (h : ∀ S H, Wd S B H → ∀ Q : Bool → Hp → Prop, (∀ B' H', Ex H H' → Ex B B' → Wd S B' H' → Q b H') → tt σ H Q) : EvB tt σ B b := fun S H w Q q => h S H w Q fun B' H' e _ _ => q H' e

/-! #### names, constants, numbers -/
theorem ev_var {i : Nat} (h : σ[i]? = some (some v)) (hd : Dp K B v d) : EvD K (tVar i) σ B d := evR_of (fun S H w Q q => ⟨v, h, q v B H (Ex.refl H) (Ex.refl B) w hd⟩) stays_dp
theorem ev_varV {i : Nat} (h : σ[i]? = some (some v)) : EvV (tVar i) σ B v := evR_of (fun S H w Q q => ⟨v, h, q v B H (Ex.refl H) (Ex.refl B) w rfl⟩) stays_eq
theorem ev_c (hd : Dp K B v d) : EvD K (tC v) σ B d := evR_of (fun S H w Q q => q v B H (Ex.refl H) (Ex.refl B) w hd) stays_dp
theorem ev_int {i : Int} : EvD K (tC (.int i)) σ B (.int i) := ev_c (.int i)
theorem ev_bl : EvD K (tC (.bl b)) σ B (.bool b) := ev_c (.bl b)
theorem ev_non : EvD K (tC .non) σ B .none := ev_c .non
theorem ev_str {x : Str} : EvD K (tC (.str x)) σ B (.str x) := ev_c (.str x)
/-- an operator by values that makes no object -/
theorem ev_op {r : R2} (ha : EvD K ta σ B d) (hb : EvD K tb σ B d') (hr : ∀ x y B' H' (Q : VK), Dp K B' x d → Dp K B' y d' → Ex B' H' → (∀ v, R v B' → Q v H') → r x y H' Q) (st : Stays R) : EvR (tOp r ta tb) σ B R :=
  evR_of (fun S H w Q q => ha.bind w fun x B1 H1 e1 eB1 w1 rx => (hb.mono eB1).bind w1 fun y B2 H2 e2 eB2 w2 ry =>
    hr x y B2 H2 Q (Dp.mono eB2 rx) ry w2.ex fun v rv => q v B2 H2 (e1.trans e2) (eB1.trans eB2) w2 rv) st
theorem ev_I0 {g : Int → Int → V} {i j : Int} (ha : EvD K ta σ B (.int i)) (hb : EvD K tb σ B (.int j)) (hd : ∀ B', Dp K B' (g i j) d) : EvD K (tOp (rI0 g) ta tb) σ B d :=
  ev_op ha hb (fun x y B' H' Q hx hy _ q => by cases hx; cases hy; exact ⟨i, j, rfl, rfl, q _ (hd _)⟩) stays_dp
theorem ev_I {C : Int → Int → Prop} {g : Int → Int → V} {i j : Int} (ha : EvD K ta σ B (.int i)) (hb : EvD K tb σ B (.int j)) (hc : C i j) (hd : ∀ B', Dp K B' (g i j) d) : EvD K (tOp (rI C g) ta tb) σ B d :=
  ev_op ha hb (fun x y B' H' Q hx hy _ q => by cases hx; cases hy; exact ⟨i, j, rfl, rfl, hc, q _ (hd _)⟩) stays_dp
theorem ev_add {i j : Int} (ha : EvD K ta σ B (.int i)) (hb : EvD K tb σ B (.int j)) : EvD K (tOp (rI0 fun i j => .int (i + j)) ta tb) σ B (.int (i + j)) := ev_I0 ha hb fun _ => .int _
theorem ev_sub {i j : Int} (ha : EvD K ta σ B (.int i)) (hb : EvD K tb σ B (.int j)) : EvD K (tOp (rI0 fun i j => .int (i - j)) ta tb) σ B (.int (i - j)) := ev_I0 ha hb fun _ => .int _
theorem ev_mul {i j : Int} (ha : EvD K ta σ B (.int i)) (hb : EvD K tb σ B (.int j)) (hc : CMul i j) : EvD K (tOp (rI CMul fun i j => .int (i * j)) ta tb) σ B (.int (i * j)) := ev_I ha hb hc fun _ => .int _
theorem ev_mod {i j : Int} (ha : EvD K ta σ B (.int i)) (hb : EvD K tb σ B (.int j)) (hc : 0 < j) : EvD K (tOp (rI (fun _ j => 0 < j) fun i j => .int (i % j)) ta tb) σ B (.int (i % j)) := ev_I ha hb hc fun _ => .int _
theorem ev_div {C : Int → Int → Prop} {i j : Int} (ha : EvD K ta σ B (.int i)) (hb : EvD K tb σ B (.int j)) (hc : C i j) : EvD K (tOp (rI C fun i j => .int (i / j)) ta tb) σ B (.int (i / j)) := ev_I ha hb hc fun _ => .int _
theorem ev_cmp {g : Int → Int → Bool} {i j : Int} (ha : EvD K ta σ B (.int i)) (hb : EvD K tb σ B (.int j)) : EvD K (tOp (rI0 fun i j => .bl (g i j)) ta tb) σ B (.bool (g i j)) := ev_I0 ha hb fun _ => .bl _
theorem ev_neg {i : Int} (ha : EvD K ta σ B (.int i)) : EvD K (tUn (rU fun i => .int (-i)) ta) σ B (.int (-i)) :=
  evR_of (fun S H w Q q => ha.bind w fun x B1 H1 e1 eB1 w1 rx => by cases rx; exact ⟨i, rfl, q _ B1 H1 e1 eB1 w1 (.int _)⟩) stays_dp
theorem ev_eqI {i j : Int} (ha : EvD K ta σ B (.int i)) (hb : EvD K tb σ B (.int j)) : EvD K (tOp rEq ta tb) σ B (.bool (decide (i = j))) :=
  ev_op ha hb (fun x y B' H' Q hx hy _ q => by
    cases hx; cases hy
    refine ⟨rfl, ?_⟩
    have e : decide (V.int i = V.int j) = decide (i = j) := by simp
    rw [e]
    exact q _ (.bl _)) stays_dp
theorem ev_neI {i j : Int} (ha : EvD K ta σ B (.int i)) (hb : EvD K tb σ B (.int j)) : EvD K (tOp rNe ta tb) σ B (.bool (!decide (i = j))) :=
  ev_op ha hb (fun x y B' H' Q hx hy _ q => by
    cases hx; cases hy
    refine ⟨rfl, ?_⟩
    have e : decide (V.int i = V.int j) = decide (i = j) := by simp
    rw [e]
    exact q _ (.bl _)) stays_dp
theorem ev_eqB {i j : Bool} (ha : EvD K ta σ B (.bool i)) (hb : EvD K tb σ B (.bool j)) : EvD K (tOp rEq ta tb) σ B (.bool (i == j)) :=
  ev_op ha hb (fun x y B' H' Q hx hy _ q => by
    cases hx; cases hy
    refine ⟨rfl, ?_⟩
    have e : decide (V.bl i = V.bl j) = (i == j) := by cases i <;> cases j <;> rfl
    rw [e]
    exact q _ (.bl _)) stays_dp
theorem ev_neB {i j : Bool} (ha : EvD K ta σ B (.bool i)) (hb : EvD K tb σ B (.bool j)) : EvD K (tOp rNe ta tb) σ B (.bool (i != j)) :=
  ev_op ha hb (fun x y B' H' Q hx hy _ q => by
    cases hx; cases hy
    refine ⟨rfl, ?_⟩
    have e : (!decide (V.bl i = V.bl j)) = (i != j) := by cases i <;> cases j <;> rfl
    rw [e]
    exact q _ (.bl _)) stays_dp
theorem ev_is (h : EvD K te σ B d) (e : d = d') : EvD K te σ B d' := by rw [← e]; exact h

/-! #### tests -/
theorem eb_test (h : EvD K te σ B (.bool b)) : EvB (tTest te) σ B b := evB_of fun S H w Q q => h.bind w fun x B1 H1 e1 eB1 w1 rx => by cases rx; exact ⟨b, rfl, q B1 H1 e1 eB1 w1⟩
theorem eb_B (h : EvD K te σ B (.bool b)) : EvB (tB te) σ B b := evB_of fun S H w Q q => h.bind w fun x B1 H1 e1 eB1 w1 rx => by cases rx; exact ⟨b, rfl, q B1 H1 e1 eB1 w1⟩
theorem eb_not (h : EvB tt σ B b) : EvB (tNot tt) σ B (!b) := evB_of fun S H w Q q => h.bind w fun B1 H1 e1 eB1 w1 => q B1 H1 e1 eB1 w1
theorem eb_and (h : EvB tt σ B b) (h2 : b = true → EvB tu σ B c) : EvB (tAnd tt tu) σ B (b && c) := evB_of fun S H w Q q => h.bind w fun B1 H1 e1 eB1 w1 => by
  cases b with
  | true => exact ((h2 rfl).mono eB1).bind w1 fun B2 H2 e2 eB2 w2 => q B2 H2 (e1.trans e2) (eB1.trans eB2) w2
  | false => exact q B1 H1 e1 eB1 w1
theorem eb_or (h : EvB tt σ B b) (h2 : b = false → EvB tu σ B c) : EvB (tOr tt tu) σ B (b || c) := evB_of fun S H w Q q => h.bind w fun B1 H1 e1 eB1 w1 => by
  cases b with
  | false => exact ((h2 rfl).mono eB1).bind w1 fun B2 H2 e2 eB2 w2 => q B2 H2 (e1.trans e2) (eB1.trans eB2) w2
  | true => exact q B1 H1 e1 eB1 w1
theorem eb_yes : EvB tYes σ B true := fun S H w Q q => q H (Ex.refl H)
theorem eb_is (h : EvB tt σ B b) (e : b = c) : EvB tt σ B c := by rw [← e]; exact h
theorem ev_and (h : EvD K ta σ B (.bool b)) (h2 : b = true → EvD K tb σ B (.bool c)) : EvD K (tAndV ta tb) σ B (.bool (b && c)) := evR_of (fun S H w Q q => h.bind w fun x B1 H1 e1 eB1 w1 rx => by
  cases rx
  refine ⟨b, rfl, ?_⟩
  cases b with
  | true => exact ((h2 rfl).mono eB1).bind w1 fun y B2 H2 e2 eB2 w2 ry => q y B2 H2 (e1.trans e2) (eB1.trans eB2) w2 ry
  | false => exact q _ B1 H1 e1 eB1 w1 (.bl _)) stays_dp
theorem ev_or (h : EvD K ta σ B (.bool b)) (h2 : b = false → EvD K tb σ B (.bool c)) : EvD K (tOrV ta tb) σ B (.bool (b || c)) := evR_of (fun S H w Q q => h.bind w fun x B1 H1 e1 eB1 w1 rx => by
  cases rx
  refine ⟨b, rfl, ?_⟩
  cases b with
  | false => exact ((h2 rfl).mono eB1).bind w1 fun y B2 H2 e2 eB2 w2 ry => q y B2 H2 (e1.trans e2) (eB1.trans eB2) w2 ry
  | true => exact q _ B1 H1 e1 eB1 w1 (.bl _)) stays_dp
theorem ev_not (h : EvD K ta σ B (.bool b)) : EvD K (tNotV ta) σ B (.bool (!b)) := evR_of (fun S H w Q q => h.bind w fun x B1 H1 e1 eB1 w1 rx => by cases rx; exact ⟨b, rfl, q _ B1 H1 e1 eB1 w1 (.bl _)⟩) stays_dp
theorem ev_if (h : EvB tt σ B b) (h1 : b = true → EvR ta σ B R) (h2 : b = false → EvR tb σ B R) (st : Stays R) : EvR (tIf tt ta tb) σ B R := evR_of (fun S H w Q q => h.bind w fun B1 H1 e1 eB1 w1 => by
  cases b with
  | true => exact ((h1 rfl).mono eB1).bind w1 fun y B2 H2 e2 eB2 w2 ry => q y B2 H2 (e1.trans e2) (eB1.trans eB2) w2 ry
  | false => exact ((h2 rfl).mono eB1).bind w1 fun y B2 H2 e2 eB2 w2 ry => q y B2 H2 (e1.trans e2) (eB1.trans eB2) w2 ry) st

/-! #### arguments, new lists and tuples -/
theorem ea_nil : EvAD K tNil σ B [] := fun S H w Q q => q [] H (Ex.refl H) .nil
theorem ea_cons (h : EvD K ta σ B d) (hr : EvAD K tA σ B ds) : EvAD K (tCons ta tA) σ B (d :: ds) := fun S H w Q q => h.bind w fun x B1 H1 e1 eB1 w1 rx => (hr.mono eB1).bind w1 fun vs B2 H2 e2 eB2 w2 rs =>
  q (x :: vs) H2 (e1.trans e2) (.cons (Dp.mono (eB2.trans (ex_mi w2.ex w2.no)) rx) (DpAll.mono (ex_mi w2.ex w2.no) rs))
theorem ev_tup (h : EvAD K tA σ B ds) (hl : ds.length ≤ 100000) : EvD K (tTup tA) σ B (.tuple ds) := evR_of (fun S H w Q q => h.bind w fun vs B1 H1 e1 eB1 w1 rs =>
  ⟨sz_of (by rw [DpAll.length rs]; exact hl), fun p hp => q (.ref p) _ _ (e1.trans (Ex.new hp)) (eB1.trans (w1.newE (o := .tup vs) hp)) (w1.new hp) (.tup (st_of upd_same) (DpAll.mono (w1.newE hp) rs))⟩) stays_dp
theorem ev_lst (h : EvAD K tA σ B ds) (hl : ds.length ≤ 100000) : EvD K (tLst tA) σ B (.list ds) := evR_of (fun S H w Q q => h.bind w fun vs B1 H1 e1 eB1 w1 rs =>
  ⟨sz_of (by rw [DpAll.length rs]; exact hl), fun p hp => q (.ref p) _ _ (e1.trans (Ex.new hp)) (eB1.trans (w1.newE (o := .lst vs) hp)) (w1.new hp) (.lst (sq_of upd_same) (DpAll.mono (w1.newE hp) rs))⟩) stays_dp
/-- a sequence: a list or a tuple -/
def seqD (tup : Bool) (ds : List PyData) : PyData := if tup then .tuple ds else .list ds
theorem Dp.seq {t : Bool} (h : Dp K B v (seqD t ds)) : ∃ a vs, v = .ref a ∧ (SqL K B a vs ∨ SqT K B a vs) ∧ DpAll K B vs ds ∧ (t = true → SqT K B a vs) ∧ (t = false → SqL K B a vs) := by
  cases t with
  | true =>
    cases (show Dp K B v (.tuple ds) from h) with
    | tup h1 h2 => exact ⟨_, _, rfl, .inr h1, h2, (fun _ => h1), (fun z => by cases z)⟩
  | false =>
    cases (show Dp K B v (.list ds) from h) with
    | lst h1 h2 => exact ⟨_, _, rfl, .inl h1, h2, (fun z => by cases z), (fun _ => h1)⟩
theorem atI_dp {vs : List V} {i : Int} (h : DpAll K B vs ds) (ha : atI ds i = some d) : ∃ v, atI vs i = some v ∧ Dp K B v d := by
  unfold atI at ha ⊢
  rw [DpAll.length h]
  obtain ⟨j, h1, h2⟩ := Option.bind_eq_some_iff.mp ha
  rw [h1]
  obtain ⟨v, h3, h4⟩ := DpAll.getd h h2
  exact ⟨v, h3, h4⟩
/-- an item -/
theorem ev_ix {t : Bool} {i : Int} (ha : EvD K ta σ B (seqD t ds)) (hb : EvD K tb σ B (.int i)) (hi : atI ds i = some d) : EvD K (tOp (rIx K) ta tb) σ B d :=
  ev_op ha hb (fun x y B' H' Q hx hy e q => by
    cases hy
    obtain ⟨a, vs, rfl, hs, hd, _⟩ := Dp.seq hx
    obtain ⟨v, h1, h2⟩ := atI_dp hd hi
    rcases hs with hs | hs
    · exact .inl ⟨a, vs, i, v, rfl, rfl, ex_l e hs, h1, q v h2⟩
    · exact .inr (.inl ⟨a, vs, i, v, rfl, rfl, ex_t e hs, h1, q v h2⟩)) stays_dp
theorem ev_ixL {i : Int} (ha : EvD K ta σ B (.list ds)) (hb : EvD K tb σ B (.int i)) (hi : atI ds i = some d) : EvD K (tOp (rIxL K) ta tb) σ B d :=
  ev_op ha hb (fun x y B' H' Q hx hy e q => by
    cases hy
    cases hx with
    | lst hs hd =>
      obtain ⟨v, h1, h2⟩ := atI_dp hd hi
      exact ⟨_, _, i, v, rfl, rfl, ex_l e hs, h1, q v h2⟩) stays_dp
theorem ev_ixT {i : Int} (ha : EvD K ta σ B (.tuple ds)) (hb : EvD K tb σ B (.int i)) (hi : atI ds i = some d) : EvD K (tOp (rIxT K) ta tb) σ B d :=
  ev_op ha hb (fun x y B' H' Q hx hy e q => by
    cases hy
    cases hx with
    | tup hs hd =>
      obtain ⟨v, h1, h2⟩ := atI_dp hd hi
      exact ⟨_, _, i, v, rfl, rfl, ex_t e hs, h1, q v h2⟩) stays_dp
/-- a call by values, one argument, that makes no object -/
theorem ev_cb {r : List V → Hp → VK → Prop} (h : EvAD K tA σ B ds) (hr : ∀ vs B' H' (Q : VK), DpAll K B' vs ds → Ex B' H' → (∀ v, R v B' → Q v H') → r vs H' Q) (st : Stays R) : EvR (tCB r tA) σ B R :=
  evR_of (fun S H w Q q => h.bind w fun vs B1 H1 e1 eB1 w1 rs => hr vs B1 H1 Q rs w1.ex fun v rv => q v B1 H1 e1 eB1 w1 rv) st
/-- a call that makes a new list (tuple) of the values that it is told -/
theorem ev_cbL {r : List V → Hp → VK → Prop} {ds' : List PyData} (h : EvAD K tA σ B ds) (hr : ∀ vs B' H' (Q : VK), DpAll K B' vs ds → Ex B' H' → (∀ p xs, H' p = none → DpAll K B' xs ds' → Q (.ref p) (upd H' p (.lst xs))) → r vs H' Q) : EvD K (tCB r tA) σ B (.list ds') :=
  evR_of (fun S H w Q q => h.bind w fun vs B1 H1 e1 eB1 w1 rs => hr vs B1 H1 Q rs w1.ex fun p xs hp hx => q (.ref p) _ _ (e1.trans (Ex.new hp)) (eB1.trans (w1.newE (o := .lst xs) hp)) (w1.new hp) (.lst (sq_of upd_same) (DpAll.mono (w1.newE hp) hx))) stays_dp
theorem ev_cbT {r : List V → Hp → VK → Prop} {ds' : List PyData} (h : EvAD K tA σ B ds) (hr : ∀ vs B' H' (Q : VK), DpAll K B' vs ds → Ex B' H' → (∀ p xs, H' p = none → DpAll K B' xs ds' → Q (.ref p) (upd H' p (.tup xs))) → (∀ v, Dp K B' v (.tuple ds') → Q v H') → r vs H' Q) : EvD K (tCB r tA) σ B (.tuple ds') :=
  evR_of (fun S H w Q q => h.bind w fun vs B1 H1 e1 eB1 w1 rs => hr vs B1 H1 Q rs w1.ex (fun p xs hp hx => q (.ref p) _ _ (e1.trans (Ex.new hp)) (eB1.trans (w1.newE (o := .tup xs) hp)) (w1.new hp) (.tup (st_of upd_same) (DpAll.mono (w1.newE hp) hx))) fun v hv => q v B1 H1 e1 eB1 w1 hv) stays_dp
def rLenS (K : PySem.W.Frag) : List V → Hp → VK → Prop := fun xs H Q => ∃ p ys, xs = [.ref p] ∧ (SqL K H p ys ∨ SqT K H p ys) ∧ Q (.int ys.length) H
theorem ev_len {t : Bool} (h : EvD K ta σ B (seqD t ds)) : EvD K (tCB (rLenS K) (tCons ta tNil)) σ B (.int (ds.length : Nat)) := ev_cb (ea_cons h ea_nil) (fun vs B' H' Q hv e q => by
  cases hv with
  | cons h1 h2 =>
    cases h2
    obtain ⟨a, xs, rfl, hs, hd, _⟩ := Dp.seq h1
    refine ⟨a, xs, rfl, hs.elim (fun h => .inl (ex_l e h)) (fun h => .inr (ex_t e h)), ?_⟩
    rw [DpAll.length hd]
    exact q _ (.int _)) stays_dp
def rListS (K : PySem.W.Frag) : List V → Hp → VK → Prop := fun xs H Q => ∃ p ys, xs = [.ref p] ∧ (SqL K H p ys ∨ SqT K H p ys) ∧ ∀ l, H l = none → Q (.ref l) (upd H l (.lst ys))
theorem ev_list {t : Bool} (h : EvD K ta σ B (seqD t ds)) : EvD K (tCB (rListS K) (tCons ta tNil)) σ B (.list ds) := ev_cbL (ea_cons h ea_nil) fun vs B' H' Q hv e q => by
  cases hv with
  | cons h1 h2 =>
    cases h2
    obtain ⟨a, xs, rfl, hs, hd, _⟩ := Dp.seq h1
    exact ⟨a, xs, rfl, hs.elim (fun h => .inl (ex_l e h)) (fun h => .inr (ex_t e h)), fun l hl => q l xs hl hd⟩
def rTupleS (K : PySem.W.Frag) : List V → Hp → VK → Prop := fun xs H Q => ∃ p ys, xs = [.ref p] ∧ ((SqL K H p ys ∧ ∀ l, H l = none → Q (.ref l) (upd H l (.tup ys))) ∨ (SqT K H p ys ∧ Q (.ref p) H))
theorem ev_tuple {t : Bool} (h : EvD K ta σ B (seqD t ds)) : EvD K (tCB (rTupleS K) (tCons ta tNil)) σ B (.tuple ds) := ev_cbT (ea_cons h ea_nil) fun vs B' H' Q hv e q q2 => by
  cases hv with
  | cons h1 h2 =>
    cases h2
    cases t with
    | true =>
      cases (show Dp K B' _ (.tuple ds) from h1) with
      | tup hs hd => exact ⟨_, _, rfl, .inr ⟨ex_t e hs, q2 _ (.tup hs hd)⟩⟩
    | false =>
      cases (show Dp K B' _ (.list ds) from h1) with
      | lst hs hd => exact ⟨_, _, rfl, .inl ⟨ex_l e hs, fun l hl => q l _ hl hd⟩⟩
theorem ev_sum {ns : List Int} (h : EvD K ta σ B (.list (ns.map .int))) : EvD K (tCB (rSum K) (tCons ta tNil)) σ B (.int ns.sum) := ev_cb (ea_cons h ea_nil) (fun vs B' H' Q hv e q => by
  cases hv with
  | cons h1 h2 =>
    cases h2
    cases h1 with
    | lst hs hd =>
      have e2 := DpAll.ints_eq hd
      subst e2
      exact ⟨_, ns, rfl, ex_l e hs, q _ (.int _)⟩) stays_dp
theorem DpAll.bools_eq : ∀ {bs : List Bool} {vs : List V}, DpAll K B vs (bs.map PyData.bool) → vs = bs.map V.bl
  | [], _, h => by cases h; rfl
  | b :: bs, _, h => by
    cases h with
    | cons h1 h2 =>
      cases h1
      rw [DpAll.bools_eq h2]
      rfl
theorem ev_all {bs : List Bool} (h : EvD K ta σ B (.list (bs.map .bool))) : EvD K (tCB (rAll K) (tCons ta tNil)) σ B (.bool (bs.all id)) := ev_cb (ea_cons h ea_nil) (fun vs B' H' Q hv e q => by
  cases hv with
  | cons h1 h2 =>
    cases h2
    cases h1 with
    | lst hs hd =>
      have e2 := DpAll.bools_eq hd
      subst e2
      exact ⟨_, bs, rfl, ex_l e hs, q _ (.bl _)⟩) stays_dp
theorem ev_any {bs : List Bool} (h : EvD K ta σ B (.list (bs.map .bool))) : EvD K (tCB (rAny K) (tCons ta tNil)) σ B (.bool (bs.any id)) := ev_cb (ea_cons h ea_nil) (fun vs B' H' Q hv e q => by
  cases hv with
  | cons h1 h2 =>
    cases h2
    cases h1 with
    | lst hs hd =>
      have e2 := DpAll.bools_eq hd
      subst e2
      exact ⟨_, bs, rfl, ex_l e hs, q _ (.bl _)⟩) stays_dp
def rInt1 : List V → Hp → VK → Prop := fun xs H Q => (∃ i, xs = [.int i] ∧ Q (.int i) H) ∨ ∃ k, xs = [.bl k] ∧ Q (.int (if k = true then 1 else 0)) H
theorem ev_intB (h : EvD K ta σ B (.bool b)) : EvD K (tCB rInt1 (tCons ta tNil)) σ B (.int (if b = true then 1 else 0)) := ev_cb (ea_cons h ea_nil) (fun vs B' H' Q hv e q => by
  cases hv with
  | cons h1 h2 =>
    cases h2
    cases h1
    exact .inr ⟨b, rfl, q _ (.int _)⟩) stays_dp
def rAbs1 : List V → Hp → VK → Prop := fun xs H Q => ∃ i, xs = [.int i] ∧ Q (.int (if i < 0 then -i else i)) H
theorem ev_abs {i : Int} (h : EvD K ta σ B (.int i)) : EvD K (tCB rAbs1 (tCons ta tNil)) σ B (.int (if i < 0 then -i else i)) := ev_cb (ea_cons h ea_nil) (fun vs B' H' Q hv e q => by
  cases hv with
  | cons h1 h2 =>
    cases h2
    cases h1
    exact ⟨i, rfl, q _ (.int _)⟩) stays_dp
def rMin2 : List V → Hp → VK → Prop := fun xs H Q => ∃ i j, xs = [.int i, .int j] ∧ Q (.int (if j < i then j else i)) H
def rMax2 : List V → Hp → VK → Prop := fun xs H Q => ∃ i j, xs = [.int i, .int j] ∧ Q (.int (if j > i then j else i)) H
theorem ev_min2 {i j : Int} (ha : EvD K ta σ B (.int i)) (hb : EvD K tb σ B (.int j)) : EvD K (tCB rMin2 (tCons ta (tCons tb tNil))) σ B (.int (if j < i then j else i)) := ev_cb (ea_cons ha (ea_cons hb ea_nil)) (fun vs B' H' Q hv e q => by
  cases hv with
  | cons h1 t =>
  cases t with
  | cons h2 t =>
    cases t
    cases h1
    cases h2
    exact ⟨i, j, rfl, q _ (.int _)⟩) stays_dp
theorem ev_max2 {i j : Int} (ha : EvD K ta σ B (.int i)) (hb : EvD K tb σ B (.int j)) : EvD K (tCB rMax2 (tCons ta (tCons tb tNil))) σ B (.int (if j > i then j else i)) := ev_cb (ea_cons ha (ea_cons hb ea_nil)) (fun vs B' H' Q hv e q => by
  cases hv with
  | cons h1 t =>
  cases t with
  | cons h2 t =>
    cases t
    cases h1
    cases h2
    exact ⟨i, j, rfl, q _ (.int _)⟩) stays_dp
/-- x in xs, of ints -/
theorem inV_ints {i : Int} : ∀ {ns : List Int}, inV (.int i) (ns.map V.int) = decide (i ∈ ns)
  | [] => by simp [inV]
  | n :: ns => by
    have ih := inV_ints (i := i) (ns := ns)
    unfold inV at ih ⊢
    rw [List.map_cons, List.any_cons, ih]
    have e : eqV (.int n) (.int i) = decide (n = i) := by
      unfold eqV
      by_cases h : n = i <;> simp [h]
    rw [e]
    by_cases h : n = i
    · simp [h]
    · have h' : ¬ i = n := fun z => h z.symm
      simp [h, h']
theorem flat_ints {ns : List Int} : (ns.map V.int).all flatV = true := by
  rw [List.all_eq_true]
  intro v hv
  obtain ⟨n, _, rfl⟩ := List.mem_map.mp hv
  rfl
theorem ev_in {neg t : Bool} {i : Int} {ns : List Int} (ha : EvD K ta σ B (.int i)) (hb : EvD K tb σ B (seqD t (ns.map .int))) : EvD K (tOp (rIn K neg) ta tb) σ B (.bool (if neg then !decide (i ∈ ns) else decide (i ∈ ns))) :=
  ev_op ha hb (fun x y B' H' Q hx hy e q => by
    cases hx
    obtain ⟨a, vs, rfl, hs, hd, _⟩ := Dp.seq hy
    have e2 := DpAll.ints_eq hd
    subst e2
    refine ⟨a, _, rfl, hs.elim (fun h => .inl (ex_l e h)) (fun h => .inr (ex_t e h)), rfl, flat_ints, ?_⟩
    rw [inV_ints]
    exact q _ (.bl _)) stays_dp
/-- == and != of data -/
theorem ev_eqD (ha : EvD K ta σ B d) (hb : EvD K tb σ B d') (s1 : SeqAt.shaped d = true) (s2 : SeqAt.shaped d' = true) : EvD K (tOp (rEqD K) ta tb) σ B (.bool (PyData.eqv d d')) :=
  ev_op ha hb (fun x y B' H' Q hx hy e q => ⟨d, d', Dp.mono e hx, Dp.mono e hy, s1, s2, q _ (.bl _)⟩) stays_dp
theorem ev_neD (ha : EvD K ta σ B d) (hb : EvD K tb σ B d') (s1 : SeqAt.shaped d = true) (s2 : SeqAt.shaped d' = true) : EvD K (tOp (rNeD K) ta tb) σ B (.bool (!PyData.eqv d d')) :=
  ev_op ha hb (fun x y B' H' Q hx hy e q => ⟨d, d', Dp.mono e hx, Dp.mono e hy, s1, s2, q _ (.bl _)⟩) stays_dp
end
end Pw

/-! ## PwLoop -/
namespace Pw
open PySem L2 Evl

/-! ### walks: what a loop or a comprehension goes through -/
def Wk (wi : TI) (σ : L2.St) (B : Hp) (n : Nat) (xd : Nat → V → Hp → Prop) : Prop := ∀ S H, Wd S B H → ∀ R : It → Hp → Prop,
  (∀ J B1 H1, Ex H H1 → Ex B B1 → Wd S B1 H1 → (∀ i H', Ex B1 H' → i < n → J.go i H') → (∀ i H', Ex B1 H' → n ≤ i → J.stop i H') →
    (∀ i S' B' H' x H'', Ex B1 B' → Wd S' B' H' → i < n → J.yld i H' x H'' → ∃ B'', Ex H' H'' ∧ Ex B' B'' ∧ Wd S' B'' H'' ∧ xd i x B'') → R J H1) → wi σ H R
section
variable {K : PySem.W.Frag} {σ : L2.St} {B H : Hp} {S : List Addr} {te ta tb tl : TE} {tt : TT} {tA : TA} {wi wi1 wi2 : TI} {g : TG} {tu : TS} {D : Ends} {n : Nat} {xd : Nat → V → Hp → Prop} {ds : List PyData}
/-- a walk over data -/
abbrev xdOf (K : PySem.W.Frag) (ds : List PyData) : Nat → V → Hp → Prop := fun i x B => ∃ d, ds[i]? = some d ∧ Dp K B x d
abbrev WkD (K : PySem.W.Frag) (wi : TI) (σ : L2.St) (B : Hp) (ds : List PyData) : Prop := Wk wi σ B ds.length (xdOf K ds)
theorem wk_list (h : EvD K tl σ B (.list ds)) : WkD K (iList K tl) σ B ds := fun S H w R k => h.bind w fun v B1 H1 e1 eB1 w1 r => by
  cases r with
  | @lst a xs _ hs hd =>
    have hl := DpAll.length hd
    refine ⟨a, rfl, ⟨xs, ex_l w1.ex hs⟩, k _ B1 H1 e1 eB1 w1 (fun i H' e hi => ⟨xs, xs[i]'(by omega), ex_l e hs, List.getElem?_eq_getElem _⟩) (fun i H' e hi => ⟨xs, ex_l e hs, by omega⟩) fun i S' B' H' x H'' eB w' hi y => ?_⟩
    obtain ⟨rfl, f⟩ := y
    have hx := f _ (ex_l (eB.trans w'.ex) hs)
    obtain ⟨d, h1, h2⟩ := DpAll.get hd hx
    exact ⟨B', Ex.refl _, Ex.refl _, w', d, h1, Dp.mono eB h2⟩
theorem wk_tup (h : EvD K tl σ B (.tuple ds)) : WkD K (iTup K tl) σ B ds := fun S H w R k => h.bind w fun v B1 H1 e1 eB1 w1 r => by
  cases r with
  | @tup a xs _ hs hd =>
    have hl := DpAll.length hd
    refine ⟨a, rfl, ⟨xs, ex_t w1.ex hs⟩, k _ B1 H1 e1 eB1 w1 (fun i H' e hi => ⟨xs, xs[i]'(by omega), ex_t e hs, List.getElem?_eq_getElem _⟩) (fun i H' e hi => ⟨xs, ex_t e hs, by omega⟩) fun i S' B' H' x H'' eB w' hi y => ?_⟩
    obtain ⟨rfl, f⟩ := y
    have hx := f _ (ex_t (eB.trans w'.ex) hs)
    obtain ⟨d, h1, h2⟩ := DpAll.get hd hx
    exact ⟨B', Ex.refl _, Ex.refl _, w', d, h1, Dp.mono eB h2⟩
theorem wk_seq {t : Bool} (h : EvD K tl σ B (seqD t ds)) : WkD K (fun σ H R => iList K tl σ H R ∨ iTup K tl σ H R) σ B ds := by
  cases t with
  | true => exact fun S H w R k => .inr (wk_tup (show EvD K tl σ B (.tuple ds) from h) S H w R k)
  | false => exact fun S H w R k => .inl (wk_list (show EvD K tl σ B (.list ds) from h) S H w R k)
/-- the ints from lo on, n of them -/
def rngI (lo : Int) (n : Nat) : List Int := (List.range n).map fun (i : Nat) => lo + (i : Int)
theorem rngI_len {lo : Int} {n : Nat} : (rngI lo n).length = n := by unfold rngI; rw [List.length_map, List.length_range]
theorem rngI_get {lo : Int} {n i : Nat} (h : i < n) : (rngI lo n)[i]? = some (lo + (i : Int)) := by
  unfold rngI
  rw [List.getElem?_map, List.getElem?_range h]
  rfl
theorem rngI_mem {lo x : Int} {n : Nat} : x ∈ rngI lo n ↔ lo ≤ x ∧ x < lo + (n : Int) := by
  unfold rngI
  rw [List.mem_map]
  constructor
  · rintro ⟨i, hi, rfl⟩
    have := List.mem_range.mp hi
    omega
  · rintro ⟨h1, h2⟩
    exact ⟨(x - lo).toNat, List.mem_range.mpr (by omega), by omega⟩
theorem wk_itr {lo : Int} {m : Nat} {S : List Addr} {H : Hp} {R : It → Hp → Prop} (w : Wd S B H)
    (k : ∀ J B1 H1, Ex H H1 → Ex B B1 → Wd S B1 H1 → (∀ i H', Ex B1 H' → i < ((rngI lo m).map PyData.int).length → J.go i H') → (∀ i H', Ex B1 H' → ((rngI lo m).map PyData.int).length ≤ i → J.stop i H') →
    (∀ i S' B' H' x H'', Ex B1 B' → Wd S' B' H' → i < ((rngI lo m).map PyData.int).length → J.yld i H' x H'' → ∃ B'', Ex H' H'' ∧ Ex B' B'' ∧ Wd S' B'' H'' ∧ xdOf K ((rngI lo m).map PyData.int) i x B'') → R J H1) : R (Itr lo m) H := by
  have hl : ((rngI lo m).map PyData.int).length = m := by rw [List.length_map, rngI_len]
  rw [hl] at k
  refine k _ B H (Ex.refl H) (Ex.refl B) w (fun i H' e hi => hi) (fun i H' e hi => hi) fun i S' B' H' x H'' eB w' hi y => ?_
  obtain ⟨rfl, rfl⟩ := y
  exact ⟨B', Ex.refl _, Ex.refl _, w', .int (lo + (i : Int)), by rw [List.getElem?_map, rngI_get hi]; rfl, .int _⟩
theorem wk_rng1 {j : Int} (h : EvAD K tA σ B [.int j]) (hj : -100000 ≤ j ∧ j ≤ 100000) : WkD K (iRng1 tA) σ B ((rngI 0 j.toNat).map .int) := fun S H w R k => by
  refine h.bind w fun vs B1 H1 e1 eB1 w1 rs => ?_
  cases rs with
  | cons r1 r2 =>
    cases r1
    cases r2
    exact ⟨j, rfl, by omega, by omega, wk_itr w1 fun J B2 H2 e2 eB2 w2 => k J B2 H2 (e1.trans e2) (eB1.trans eB2) w2⟩
theorem wk_rng2 {i j : Int} (h : EvAD K tA σ B [.int i, .int j]) (hi : -100000 ≤ i ∧ i ≤ 100000) (hj : -100000 ≤ j ∧ j ≤ 100000) : WkD K (iRng2 tA) σ B ((rngI i (j - i).toNat).map .int) := fun S H w R k => by
  refine h.bind w fun vs B1 H1 e1 eB1 w1 rs => ?_
  cases rs with
  | cons r1 r2 =>
    cases r2 with
    | cons r2 r3 =>
    cases r1
    cases r2
    cases r3
    exact ⟨i, j, rfl, ⟨by omega, by omega, by omega, by omega⟩, wk_itr w1 fun J B2 H2 e2 eB2 w2 => k J B2 H2 (e1.trans e2) (eB1.trans eB2) w2⟩

/-! ### comprehensions -/
def TurnLc (K : PySem.W.Frag) (g : TG) (tt : TT) (te : TE) (σ : L2.St) (vs : List Nat) (B : Hp) (d : PyData) (fa : Bool) (ea : PyData) : Prop :=
  ∀ x S B' H', Ex B B' → Wd S B' H' → Dp K B' x d → ∀ (Qy : VK) (Qn : Hp → Prop), (fa = true → ∀ y B2 H2, Ex H' H2 → Ex B' B2 → Wd S B2 H2 → Dp K B2 y ea → Qy y H2) → (fa = false → ∀ B2 H2, Ex H' H2 → Ex B' B2 → Wd S B2 H2 → Qn H2) →
    g x (wipe σ vs) H' fun σ2 H2 => wipe σ2 vs = wipe σ vs ∧ tt σ2 H2 fun b H3 => if b = true then te σ2 H3 Qy else Qn H3
theorem ev_lc {α : Type} (l : List α) (enc : α → PyData) (f : α → Bool) (e : α → PyData) {vs : List Nat} (hk : WkD K wi σ B (l.map enc)) (hl : l.length ≤ 40000) (turn : ∀ a ∈ l, TurnLc K g tt te σ vs B (enc a) (f a) (e a)) :
    EvD K (tLc wi g tt te vs) σ B (.list ((l.filter f).map e)) := fun S H w Q q => by
  refine hk S H w _ fun J B1 H1 e1 eB1 w1 hgo hstop hyld Dl hD => ?_
  rw [List.length_map] at hgo hstop hyld
  refine ⟨fun i m H' => m = l.length - i ∧ i ≤ l.length ∧ Ex H1 H' ∧ ∃ B' acc, Ex B1 B' ∧ Wd (Dl :: S) B' H' ∧ H' Dl = some (.lst acc) ∧ DpAll K B' acc (((l.take i).filter f).map e), ⟨l.length, by omega, Nat.zero_le _, Ex.new hD, B1, [], Ex.refl _, w1.own hD, upd_same, .nil⟩, ?_⟩
  rintro i m H2 ⟨rfl, hi, eH, B2, acc, eB2, w2, hA, hd⟩
  by_cases hlt : i < l.length
  · obtain ⟨a, ha⟩ : ∃ a, l[i]? = some a := ⟨l[i], List.getElem?_eq_getElem hlt⟩
    have hmem : a ∈ l := List.mem_of_getElem? ha
    refine .inr ⟨hgo i H2 (eB2.trans w2.ex) hlt, fun H' => ∃ B', ∃ acc, Ex H1 H' ∧ Ex B1 B' ∧ Wd (Dl :: S) B' H' ∧ H' Dl = some (.lst acc) ∧ DpAll K B' acc (((l.take (i + 1)).filter f).map e), fun H' ⟨B', acc, h1, h2, h3, h4, h5⟩ => ⟨l.length - (i + 1), by omega, rfl, by omega, h1, B', acc, h2, h3, h4, h5⟩, fun x H3 hy => ?_⟩
    obtain ⟨B3, e3, eB3, w3, d, hd1, hd2⟩ := hyld i (Dl :: S) B2 H2 x H3 eB2 w2 hlt hy
    have ed : enc a = d := by
      rw [List.getElem?_map, ha] at hd1
      exact Option.some.inj hd1
    subst ed
    have htk : l.take (i + 1) = l.take i ++ [a] := by rw [List.take_add_one, ha]; rfl
    have hA3 := e3 _ _ hA
    refine turn a hmem x (Dl :: S) B3 H3 (eB1.trans (eB2.trans eB3)) w3 hd2 _ _ (fun hf y B4 H4 e4 eB4 w4 hy4 => ?_) (fun hf B4 H4 e4 eB4 w4 => ?_)
    · have hlen : acc.length ≤ l.length := by
        rw [DpAll.length hd, List.length_map]
        refine Nat.le_trans (List.length_filter_le _ _) ?_
        rw [List.length_take]
        exact Nat.min_le_right _ _
      refine ⟨acc, e4 _ _ hA3, sz_lt (by omega), B4, acc ++ [y], ?_, eB2.trans (eB3.trans eB4), w4.put List.mem_cons_self, upd_same, ?_⟩
      · exact (eH.trans (e3.trans e4)).mut hD
      · rw [htk, List.filter_append, List.filter_cons, if_pos hf, List.map_append]
        exact DpAll.snoc (DpAll.mono (eB3.trans eB4) hd) hy4
    · refine ⟨B4, acc, eH.trans (e3.trans e4), eB2.trans (eB3.trans eB4), w4, e4 _ _ hA3, ?_⟩
      rw [htk, List.filter_append, List.filter_cons, if_neg (by rw [hf]; decide)]
      show DpAll K B4 acc ((List.filter f (l.take i) ++ []).map e)
      rw [List.append_nil]
      exact DpAll.mono (eB3.trans eB4) hd
  · have ei : i = l.length := by omega
    subst ei
    refine .inl ⟨hstop _ H2 (eB2.trans w2.ex) (Nat.le_refl _), q _ _ (e1.trans eH) ?_⟩
    rw [List.take_length] at hd
    have w4 := w2.give hA (w1.nin hD)
    exact Dp.mono (ex_mi w4.ex w4.no) (.lst (sq_of upd_same) (DpAll.mono w2.giveE hd))
theorem turn_name {j : Nat} {vs : List Nat} {d ea : PyData} {fa : Bool} (hv : ∀ x, wipe ((wipe σ vs).set j (some x)) vs = wipe σ vs)
    (ht : ∀ x B', Ex B B' → Dp K B' x d → EvB tt ((wipe σ vs).set j (some x)) B' fa) (he : ∀ x B', Ex B B' → Dp K B' x d → fa = true → EvD K te ((wipe σ vs).set j (some x)) B' ea) : TurnLc K (gName j) tt te σ vs B d fa ea :=
  fun x S B' H' eB w hx Qy Qn hy hn => ⟨hv x, (ht x B' eB hx).bind w fun B2 H2 e2 eB2 w2 => by
    cases fa with
    | true => exact ((he x B' eB hx rfl).mono eB2).bind w2 fun y B3 H3 e3 eB3 w3 r => hy rfl y B3 H3 (e2.trans e3) (eB2.trans eB3) w3 r
    | false => exact hn rfl B2 H2 e2 eB2 w2⟩
theorem turn_two {j1 j2 : Nat} {vs : List Nat} {d1 d2 ea : PyData} {fa : Bool} (hv : ∀ x1 x2, wipe (((wipe σ vs).set j1 (some x1)).set j2 (some x2)) vs = wipe σ vs)
    (ht : ∀ x1 x2 B', Ex B B' → Dp K B' x1 d1 → Dp K B' x2 d2 → EvB tt (((wipe σ vs).set j1 (some x1)).set j2 (some x2)) B' fa)
    (he : ∀ x1 x2 B', Ex B B' → Dp K B' x1 d1 → Dp K B' x2 d2 → fa = true → EvD K te (((wipe σ vs).set j1 (some x1)).set j2 (some x2)) B' ea) : TurnLc K (gTup K 2 (gCons (gName j1) (gCons (gName j2) gNil))) tt te σ vs B (.tuple [d1, d2]) fa ea :=
  fun x S B' H' eB w hx Qy Qn hy hn => by
    cases hx with
    | tup hs hd =>
    cases hd with
    | cons h1 t =>
    cases t with
    | cons h2 t =>
    cases t
    refine ⟨_, _, rfl, ex_t w.ex hs, rfl, _, _, rfl, _, _, rfl, rfl, hv _ _, (ht _ _ B' eB h1 h2).bind w fun B2 H2 e2 eB2 w2 => ?_⟩
    cases fa with
    | true => exact ((he _ _ B' eB h1 h2 rfl).mono eB2).bind w2 fun y B3 H3 e3 eB3 w3 r => hy rfl y B3 H3 (e2.trans e3) (eB2.trans eB3) w3 r
    | false => exact hn rfl B2 H2 e2 eB2 w2
theorem turn_three {j1 j2 j3 : Nat} {vs : List Nat} {d1 d2 d3 ea : PyData} {fa : Bool} (hv : ∀ x1 x2 x3, wipe ((((wipe σ vs).set j1 (some x1)).set j2 (some x2)).set j3 (some x3)) vs = wipe σ vs)
    (ht : ∀ x1 x2 x3 B', Ex B B' → Dp K B' x1 d1 → Dp K B' x2 d2 → Dp K B' x3 d3 → EvB tt ((((wipe σ vs).set j1 (some x1)).set j2 (some x2)).set j3 (some x3)) B' fa)
    (he : ∀ x1 x2 x3 B', Ex B B' → Dp K B' x1 d1 → Dp K B' x2 d2 → Dp K B' x3 d3 → fa = true → EvD K te ((((wipe σ vs).set j1 (some x1)).set j2 (some x2)).set j3 (some x3)) B' ea) : TurnLc K (gTup K 3 (gCons (gName j1) (gCons (gName j2) (gCons (gName j3) gNil)))) tt te σ vs B (.tuple [d1, d2, d3]) fa ea :=
  fun x S B' H' eB w hx Qy Qn hy hn => by
    cases hx with
    | tup hs hd =>
    cases hd with
    | cons h1 t =>
    cases t with
    | cons h2 t =>
    cases t with
    | cons h3 t =>
    cases t
    refine ⟨_, _, rfl, ex_t w.ex hs, rfl, _, _, rfl, _, _, rfl, _, _, rfl, rfl, hv _ _ _, (ht _ _ _ B' eB h1 h2 h3).bind w fun B2 H2 e2 eB2 w2 => ?_⟩
    cases fa with
    | true => exact ((he _ _ _ B' eB h1 h2 h3 rfl).mono eB2).bind w2 fun y B3 H3 e3 eB3 w3 r => hy rfl y B3 H3 (e2.trans e3) (eB2.trans eB3) w3 r
    | false => exact hn rfl B2 H2 e2 eB2 w2

/-! ### statements -/
theorem st_asg {i : Nat} {R : V → Hp → Prop} (w : Wd S B H) (h : EvR te σ B R) (k : ∀ v B' H', Ex H H' → Ex B B' → Wd S B' H' → R v B' → D.nx (σ.set i (some v)) H') : tAsg te (gName i) D σ H := h.bind w k
theorem st_ret {R : V → Hp → Prop} (w : Wd S B H) (h : EvR te σ B R) (k : ∀ v B' H', Ex H H' → Ex B B' → Wd S B' H' → R v B' → D.rt v H') : tRet te D σ H := h.bind w k
theorem st_if {tv : TS} {b : Bool} (w : Wd S B H) (h : EvB tt σ B b) (h1 : b = true → ∀ B' H', Ex H H' → Ex B B' → Wd S B' H' → tu D σ H') (h2 : b = false → ∀ B' H', Ex H H' → Ex B B' → Wd S B' H' → tv D σ H') : tIfS tt tu tv D σ H := h.bind w fun B' H' e eB w' => by
  cases b with
  | true => exact h1 rfl B' H' e eB w'
  | false => exact h2 rfl B' H' e eB w'
theorem st_for {α : Type} (l : List α) (enc : α → PyData) (w : Wd S B H) (hk : WkD K wi σ B (l.map enc)) (k : ∀ B1 H1, Ex H H1 → Ex B B1 → Wd S B1 H1 → ∃ Iv : Nat → L2.St → Hp → Prop, Iv 0 σ H1 ∧
    (∀ i a σ' H', l[i]? = some a → Iv i σ' H' → ∃ S' B', Ex B1 B' ∧ Wd S' B' H' ∧ ∀ x B'' H'', Ex H' H'' → Ex B' B'' → Wd S' B'' H'' → Dp K B'' x (enc a) → g x σ' H'' fun σ2 H2 => tu { D with nx := Iv (i + 1), ct := Iv (i + 1), bk := D.nx } σ2 H2) ∧
    (∀ σ' H', Iv l.length σ' H' → (∃ S' B', Ex B1 B' ∧ Wd S' B' H') ∧ D.nx σ' H')) : tFor wi g tu D σ H := by
  refine hk S H w _ fun J B1 H1 e1 eB1 w1 hgo hstop hyld => ?_
  rw [List.length_map] at hgo hstop hyld
  obtain ⟨Iv, h0, hs, hd⟩ := k B1 H1 e1 eB1 w1
  refine ⟨fun i m σ' H' => m = l.length - i ∧ i ≤ l.length ∧ Iv i σ' H', ⟨l.length, by omega, Nat.zero_le _, h0⟩, ?_⟩
  rintro i m σ2 H2 ⟨rfl, hi, p⟩
  by_cases hlt : i < l.length
  · obtain ⟨a, ha⟩ : ∃ a, l[i]? = some a := ⟨l[i], List.getElem?_eq_getElem hlt⟩
    obtain ⟨S', B', eB', w', t⟩ := hs i a σ2 H2 ha p
    refine .inr ⟨hgo i H2 (eB'.trans w'.ex) hlt, Iv (i + 1), fun σ' H' p' => ⟨l.length - (i + 1), by omega, rfl, by omega, p'⟩, fun x H3 hy => ?_⟩
    obtain ⟨B3, e3, eB3, w3, d, hd1, hd2⟩ := hyld i S' B' H2 x H3 eB' w' hlt hy
    have ed : enc a = d := by
      rw [List.getElem?_map, ha] at hd1
      exact Option.some.inj hd1
    subst ed
    exact t x B3 H3 e3 eB3 w3 hd2
  · have ei : i = l.length := by omega
    subst ei
    obtain ⟨⟨S', B', eB', w'⟩, h⟩ := hd σ2 H2 p
    exact .inl ⟨hstop _ H2 (eB'.trans w'.ex) (Nat.le_refl _), h⟩

/-! ### calls of defs that change nothing -/
/-- what a def that changes nothing is worth: from data of these kinds a value of this one -/
def spD (K : PySem.W.Frag) (f : List PyData → PyData → Prop) : Sp := fun vs H Q _ => ∃ S B ds d, Wd S B H ∧ DpAll K B vs ds ∧ f ds d ∧ ∀ v B' H', Ex H H' → Ex B B' → Wd S B' H' → Dp K B' v d → Q v H'
theorem ev_call {f : List PyData → PyData → Prop} {d : PyData} {E : XK} (h : EvAD K tA σ B ds) (hf : f ds d) : EvD K (tCall (spD K f) [] E tA) σ B d :=
  evR_of (fun S H w Q q => h.bind w fun vs B1 H1 e1 eB1 w1 rs => ⟨S, B1, ds, d, w1, by rw [List.append_nil]; exact rs, hf, fun v B' H' e eB w' r => q v B' H' (e1.trans e) (eB1.trans eB) w' r⟩) stays_dp
end
end Pw

/-! ## PwDict -/
namespace Pw
open PySem L2 Evl
section
variable {K : PySem.W.Frag} {σ : L2.St} {B H : Hp} {S : List Addr} {te ta tb td tl : TE} {tA : TA} {R R' : V → Hp → Prop}
theorem ev_varR {i : Nat} {v : V} (h : σ[i]? = some (some v)) (r : R v B) (st : Stays R) : EvR (tVar i) σ B R := evR_of (fun S H w Q q => ⟨v, h, q v B H (Ex.refl H) (Ex.refl B) w r⟩) st
/-- a dict of which it matters which ints are its keys -/
def DSet (ks : List Int) (v : V) (B : Hp) : Prop := ∃ a kvs, v = .ref a ∧ B a = some (.dK kvs) ∧ ∀ k : Int, (valV kvs (.inl k)).isSome = decide (k ∈ ks)
theorem stays_dset {ks : List Int} : Stays (DSet ks) := fun v B B' e ⟨a, kvs, h1, h2, h3⟩ => ⟨a, kvs, h1, e _ _ h2, h3⟩
def rDictP (K : PySem.W.Frag) : List V → Hp → VK → Prop := fun xs H Q => ∃ (a : Addr) (ps : List Addr) (kvs : List (Key × V)), xs = [.ref a] ∧ SqL K H a (ps.map V.ref) ∧ Paired (fun p kv => SqT K H p [kV kv.1, kv.2]) ps kvs ∧
    ∀ p, H p = none → Q (.ref p) (upd H p (.dK (mergeK [] kvs)))
theorem pairs_ints {f : Int → PyData} : ∀ {ks : List Int} {xs : List V}, DpAll K B xs (ks.map fun k => .tuple [.int k, f k]) →
    ∃ (ps : List Addr) (kvs : List (Key × V)), xs = ps.map V.ref ∧ Paired (fun p kv => SqT K B p [kV kv.1, kv.2]) ps kvs ∧ kvs.map (·.1) = ks.map Sum.inl
  | [], _, h => by cases h; exact ⟨[], [], rfl, .nil, rfl⟩
  | k :: ks, _, h => by
    cases h with
    | cons h1 h2 =>
    obtain ⟨ps, kvs, rfl, h3, h4⟩ := pairs_ints h2
    cases h1 with
    | @tup a ys _ hs hd =>
    cases hd with
    | @cons y1 _ _ _ q1 t =>
    cases t with
    | @cons y2 _ _ _ q2 t =>
    cases t
    cases q1
    exact ⟨a :: ps, (.inl k, y2) :: kvs, rfl, .cons hs h3, by rw [List.map_cons, List.map_cons, h4]⟩
theorem merge_some {κ : Type} [DecidableEq κ] (k : κ) : ∀ (kvs acc : List (κ × V)), (valV (kvs.foldl (fun acc kv => putK acc kv.1 kv.2) acc) k).isSome = ((valV acc k).isSome || decide (k ∈ kvs.map (·.1)))
  | [], acc => by simp
  | p :: r, acc => by
    rw [List.foldl_cons, merge_some k r, valV_put, List.map_cons]
    by_cases h : k = p.1
    · simp [h]
    · rw [if_neg h]
      have e : decide (k ∈ p.1 :: r.map (·.1)) = decide (k ∈ r.map (·.1)) := by
        by_cases q : k ∈ r.map (·.1)
        · rw [decide_eq_true q, decide_eq_true (List.mem_cons_of_mem _ q)]
        · rw [decide_eq_false q, decide_eq_false (fun z => (List.mem_cons.mp z).elim h q)]
      rw [e]
theorem paired_mono {H H' : Hp} {ps : List Addr} {kvs : List (Key × V)} (e : Ex H H') (h : Paired (fun p (kv : Key × V) => SqT K H p [kV kv.1, kv.2]) ps kvs) : Paired (fun p (kv : Key × V) => SqT K H' p [kV kv.1, kv.2]) ps kvs :=
  Paired.mapP h fun _ _ q => ex_t e q
theorem ev_dset {ks : List Int} {f : Int → PyData} (h : EvD K ta σ B (.list (ks.map fun k => .tuple [.int k, f k]))) : EvR (tCB (rDictP K) (tCons ta tNil)) σ B (DSet ks) :=
  evR_of (fun S H w Q q => (ea_cons h ea_nil).bind w fun vs B1 H1 e1 eB1 w1 rs => by
    cases rs with
    | cons r1 r2 =>
    cases r2
    cases r1 with
    | @lst a xs _ hs hd =>
    obtain ⟨ps, kvs, rfl, hp, hk⟩ := pairs_ints hd
    refine ⟨a, ps, kvs, rfl, ex_l w1.ex hs, paired_mono w1.ex hp, fun p hp => q (.ref p) _ _ (e1.trans (Ex.new hp)) (eB1.trans (w1.newE (o := .dK (mergeK [] kvs)) hp)) (w1.new hp) ⟨p, _, rfl, upd_same, fun k => ?_⟩⟩
    unfold mergeK
    rw [merge_some, hk]
    simp [valV_nil]) stays_dset
theorem ev_din {i : Int} {ks : List Int} (ha : EvD K ta σ B (.int i)) (hd : EvR td σ B (DSet ks)) : EvD K (tDIn ta td) σ B (.bool (decide (i ∈ ks))) :=
  evR_of (fun S H w Q q => ha.bind w fun x B1 H1 e1 eB1 w1 rx => (hd.mono eB1).bind w1 fun y B2 H2 e2 eB2 w2 ⟨a, kvs, ey, hy, hk⟩ => by
    cases rx
    subst ey
    refine ⟨a, _, rfl, .k (k := .inl i) (w2.ex _ _ hy), ?_⟩
    rw [hk]
    exact q _ B2 H2 (e1.trans e2) (eB1.trans eB2) w2 (.bl _)) stays_dp
theorem ev_dnin {i : Int} {ks : List Int} (ha : EvD K ta σ B (.int i)) (hd : EvR td σ B (DSet ks)) : EvD K (tDNotIn ta td) σ B (.bool (!decide (i ∈ ks))) :=
  evR_of (fun S H w Q q => ha.bind w fun x B1 H1 e1 eB1 w1 rx => (hd.mono eB1).bind w1 fun y B2 H2 e2 eB2 w2 ⟨a, kvs, ey, hy, hk⟩ => by
    cases rx
    subst ey
    refine ⟨a, _, rfl, .k (k := .inl i) (w2.ex _ _ hy), ?_⟩
    rw [hk]
    exact q _ B2 H2 (e1.trans e2) (eB1.trans eB2) w2 (.bl _)) stays_dp
theorem filter_yes {α : Type} (l : List α) : l.filter (fun _ => true) = l := by simp
end
end Pw

/-! ## PwIsi -/
namespace Pw
open PySem L2 Evl
/-- a datum's class -/
def tyN : PyData → String
  | .none => "NoneType"
  | .bool _ => "bool"
  | .int _ => "int"
  | .str _ => "str"
  | .list _ => "list"
  | .tuple _ => "tuple"
  | .dict _ => "dict"
section
variable {K : PySem.W.Frag} {σ : L2.St} {B H : Hp} {S : List Addr} {te ta tb td tl : TE} {tA : TA} {d : PyData} {b b1 b2 : Bool}
theorem tyx_of {v : V} (h : Dp K B v d) (e : Ex B H) : TyX K H v (.type (tyN d)) := by
  cases h with
  | non => exact .base .non
  | bl b => exact .base (.bl b)
  | int i => exact .base (.int i)
  | str x => exact .base (.str x)
  | lst hs _ =>
    rcases ex_l e hs with (h | ⟨o, h⟩) | ⟨o, _, _, h, hc, _⟩
    · exact .base (.lst h)
    · exact .base (.frz h)
    · exact .kList h hc
  | tup hs _ =>
    rcases ex_t e hs with (h | ⟨o, h⟩) | ⟨o, _, _, h, hc, _⟩
    · exact .base (.tup h)
    · exact .fTuple h
    · exact .kTuple h hc
theorem ev_isi {T : String} (h : EvD K ta σ B d) (hb : kitB (tyN d) T = some b) : EvD K (tCB (rIsi K) (tCons ta (tCons (tC (.ty T)) tNil))) σ B (.bool b) :=
  evR_of (fun S H w Q q => h.bind w fun x B1 H1 e1 eB1 w1 rx => ⟨x, .ty T, _, _, b, rfl, .ty T, tyx_of rx w1.ex, kit_ty hb, q _ B1 H1 e1 eB1 w1 (.bl _)⟩) stays_dp
theorem ev_isi2 {T1 T2 : String} (h : EvD K ta σ B d) (h1 : kitB (tyN d) T1 = some b1) (h2 : kitB (tyN d) T2 = some b2) : EvD K (tCB (rIsiT K) (tCons ta (tCons (tTup (tCons (tC (.ty T1)) (tCons (tC (.ty T2)) tNil))) tNil))) σ B (.bool (b1 || b2)) :=
  evR_of (fun S H w Q q => h.bind w fun x B1 H1 e1 eB1 w1 rx => by
    refine ⟨(by show 2 ≤ sizeLine; decide), fun p hp => ⟨x, p, [.ty T1, .ty T2], _, [.type T1, .type T2], b1 || b2, rfl, upd_same, .cons (.ty T1) (.cons (.ty T2) .nil), tyx_of rx (w1.ex.trans (Ex.new hp)), ?_, q _ _ _ (e1.trans (Ex.new hp)) eB1 (w1.ext (Ex.new hp)) (.bl _)⟩⟩
    refine kitAny_cons (kit_ty h1) (fun z => ?_) (fun z => by rw [z]; rfl)
    rw [z, Bool.false_or]
    exact kitAny_cons (kit_ty h2) (fun z2 => by rw [z2]; exact kitAny_nil) fun z2 => z2) stays_dp
def rIsNs : R2 := fun x y H Q => y = .non ∧ Q (.bl (decide (x = .non))) H
theorem ev_isN (h : EvD K ta σ B d) (hb : (tyN d == "NoneType") = b) : EvD K (tOp rIsNs ta (tC .non)) σ B (.bool b) :=
  evR_of (fun S H w Q q => h.bind w fun x B1 H1 e1 eB1 w1 rx => by
    refine ⟨rfl, ?_⟩
    have e : decide (x = .non) = b := by
      subst hb
      cases rx <;> simp [tyN]
    rw [e]
    exact q _ B1 H1 e1 eB1 w1 (.bl _)) stays_dp
def rNotNs : R2 := fun x y H Q => y = .non ∧ Q (.bl (!decide (x = .non))) H
theorem ev_notN (h : EvD K ta σ B d) (hb : (tyN d == "NoneType") = b) : EvD K (tOp rNotNs ta (tC .non)) σ B (.bool (!b)) :=
  evR_of (fun S H w Q q => h.bind w fun x B1 H1 e1 eB1 w1 rx => by
    refine ⟨rfl, ?_⟩
    have e : decide (x = .non) = b := by
      subst hb
      cases rx <;> simp [tyN]
    rw [e]
    exact q _ B1 H1 e1 eB1 w1 (.bl _)) stays_dp
/-- things without parts -/
def atomD : PyData → Bool
  | .none => true
  | .bool _ => true
  | .int _ => true
  | .str _ => true
  | _ => false
/-- the same atom twice, by == -/
theorem ev_eqA (ha : EvD K ta σ B d) (hb : EvD K tb σ B d) (hd : atomD d = true) : EvD K (tOp rEq ta tb) σ B (.bool true) :=
  ev_op ha hb (fun x y B' H' Q hx hy _ q => by
    have e : x = y := by cases hx <;> cases hy <;> first | rfl | cases hd
    subst e
    refine ⟨?_, ?_⟩
    · cases hx <;> first | rfl | cases hd
    · rw [decide_eq_true rfl]
      exact q _ (.bl _)) stays_dp
theorem kit_list {x : PyData} (h : atomD x = true) : kitB (tyN x) "list" = some false ∧ kitB (tyN x) "tuple" = some false := by
  match x, h with
  | .none, _ => exact (by decide +kernel : kitB "NoneType" "list" = some false ∧ kitB "NoneType" "tuple" = some false)
  | .bool _, _ => exact (by decide +kernel : kitB "bool" "list" = some false ∧ kitB "bool" "tuple" = some false)
  | .int _, _ => exact (by decide +kernel : kitB "int" "list" = some false ∧ kitB "int" "tuple" = some false)
  | .str _, _ => exact (by decide +kernel : kitB "str" "list" = some false ∧ kitB "str" "tuple" = some false)
theorem kit_strbool {x : PyData} (h : atomD x = true) : kitB (tyN x) "str" = some (tyN x == "str") ∧ kitB (tyN x) "bool" = some (tyN x == "bool") := by
  match x, h with
  | .none, _ => exact (by decide +kernel : kitB "NoneType" "str" = some ("NoneType" == "str") ∧ kitB "NoneType" "bool" = some ("NoneType" == "bool"))
  | .bool _, _ => exact (by decide +kernel : kitB "bool" "str" = some ("bool" == "str") ∧ kitB "bool" "bool" = some ("bool" == "bool"))
  | .int _, _ => exact (by decide +kernel : kitB "int" "str" = some ("int" == "str") ∧ kitB "int" "bool" = some ("int" == "bool"))
  | .str _, _ => exact (by decide +kernel : kitB "str" "str" = some ("str" == "str") ∧ kitB "str" "bool" = some ("str" == "bool"))
theorem kit_int {x : PyData} (h : atomD x = true) (h1 : (tyN x == "NoneType" || tyN x == "str") = false) (h2 : (tyN x == "bool") = false) : kitB (tyN x) "int" = some true := by
  match x, h with
  | .none, _ => cases h1
  | .bool _, _ => cases h2
  | .int _, _ => exact (by decide +kernel : kitB "int" "int" = some true)
  | .str _, _ => cases h1
end
end Pw

/-! ## PwDraw -/
namespace Pw
open PySem L2 Evl
/-! ### expressions that draw from the box b -/
abbrev lid : Nat := 2 ^ 40
def EvX (S : List Addr) (b : Addr) (k : Nat) (te : TE) (σ : L2.St) (B : Hp) (R : V → Hp → Prop) : Prop :=
  ∀ H c, Wd S B H → b ∈ S → BoxAt H b c → c + k ≤ lid → ∀ Q : VK, (∀ v H', Xs [b] H H' → BoxAt H' b (c + k) → R v (mi H' S) → Q v H') → te σ H Q
section
variable {K : PySem.W.Frag} {σ : L2.St} {B H H' : Hp} {S : List Addr} {b : Addr} {k m c : Nat} {te ta tb tl : TE} {tt : TT} {tA : TA} {wi : TI} {g : TG} {R R' : V → Hp → Prop}
theorem Wd.xs (w : Wd S B H) (hb : b ∈ S) (h : BoxAt H b m) (x : Xs [b] H H') (h' : BoxAt H' b c) : Wd S (mi H' S) H' := ⟨mi_ex, fun s m => mi_no m, fun s m => by
  by_cases q : s = b
  · rw [q]; exact h'.some
  · obtain ⟨o, e⟩ := w.at_ s m
    exact ⟨o, x s o (fun z => q (List.mem_singleton.mp z)) e⟩⟩
theorem Wd.xsE (w : Wd S B H) (hb : b ∈ S) (x : Xs [b] H H') : Ex B (mi H' S) := ex_mi (x.ex1 w.ex (w.no b hb)) w.no
theorem EvX.bind (h : EvX S b k te σ B R) {Q : VK} (w : Wd S B H) (hb : b ∈ S) (hB : BoxAt H b c) (hl : c + k ≤ lid) (q : ∀ v B' H', Xs [b] H H' → Ex B B' → Wd S B' H' → BoxAt H' b (c + k) → R v B' → Q v H') : te σ H Q :=
  h H c w hb hB hl Q fun v H' x hB' r => q v _ H' x (w.xsE hb x) (w.xs hb hB x hB') hB' r
theorem EvX.mono {B' : Hp} (e : Ex B B') (h : EvX S b k te σ B R) : EvX S b k te σ B' R := fun H c w hb hB hl Q q => h H c (w.back e) hb hB hl Q q
theorem EvX.more (h : EvX S b k te σ B R) (hk : k ≤ m) : EvX S b m te σ B R := fun H c w hb hB hl Q q => h H c w hb hB (by omega) Q fun v H' x hB' r => q v H' x (hB'.mono (by omega)) r
theorem EvX.imp (h : EvX S b k te σ B R) (i : ∀ v B', R v B' → R' v B') : EvX S b k te σ B R' := fun H c w hb hB hl Q q => h H c w hb hB hl Q fun v H' x hB' r => q v H' x hB' (i _ _ r)
theorem evX_of (h : ∀ H c, Wd S B H → b ∈ S → BoxAt H b c → c + k ≤ lid → ∀ Q : VK, (∀ v B' H', Xs [b] H H' → Ex B B' → Wd S B' H' → BoxAt H' b (c + k) → R v B' → Q v H') → te σ H Q) (st : Stays R) : EvX S b k te σ B R :=
  fun H c w hb hB hl Q q => h H c w hb hB hl Q fun v B' H' x e w' hB' r => q v H' x hB' (st _ _ _ (ex_mi w'.ex w'.no) r)
/-- one that draws nothing -/
theorem EvR.x (h : EvR te σ B R) : EvX S b 0 te σ B R := fun H c w hb hB hl Q q => h S H w Q fun v H' e r => q v H' (Xs.of e) (hB.ex e) r
theorem stays_ex {α : Type} {p : α → Prop} {f : α → PyData} : Stays fun v B => ∃ a, p a ∧ Dp K B v (f a) := fun v B B' e ⟨a, h1, h2⟩ => ⟨a, h1, Dp.mono e h2⟩
/-- an int drawn -/
abbrev IntIn (K : PySem.W.Frag) (p : Int → Prop) (v : V) (B : Hp) : Prop := ∃ i : Int, p i ∧ Dp K B v (.int i)
theorem stays_int {p : Int → Prop} : Stays (IntIn K p) := stays_ex
theorem EvX.get {p : Int → Prop} (h : EvX S b k te σ B (IntIn K p)) {Q : VK} (w : Wd S B H) (hb : b ∈ S) (hB : BoxAt H b c) (hl : c + k ≤ lid) (q : ∀ i B' H', p i → Xs [b] H H' → Ex B B' → Wd S B' H' → BoxAt H' b (c + k) → Q (.int i) H') : te σ H Q :=
  h.bind w hb hB hl fun v B' H' x e w' hB' ⟨i, hi, r⟩ => by cases r; exact q i B' H' hi x e w' hB'

/-- [e for x in l if t], t or e drawing -/
theorem ex_lc {α β : Type} (l : List α) (enc : α → PyData) (encY : β → PyData) (Pr : Nat → List β → Prop) {vs : List Nat} (hk : WkD K wi σ B (l.map enc)) (hl : l.length ≤ 40000) (h0 : Pr 0 []) (hlen : ∀ i ys, Pr i ys → ys.length ≤ i)
    (turn : ∀ i a ys, l[i]? = some a → Pr i ys → ∀ x S' B' H' c', Ex B B' → Wd S' B' H' → b ∈ S' → BoxAt H' b c' → c' + k ≤ lid → Dp K B' x (enc a) → ∀ (Qy : VK) (Qn : Hp → Prop),
      (∀ y yv B2 H2, Xs [b] H' H2 → BoxAt H2 b (c' + k) → Wd S' B2 H2 → Ex B' B2 → Dp K B2 yv (encY y) → Pr (i + 1) (ys ++ [y]) → Qy yv H2) → (Pr (i + 1) ys → ∀ B2 H2, Xs [b] H' H2 → BoxAt H2 b (c' + k) → Wd S' B2 H2 → Ex B' B2 → Qn H2) →
      g x (wipe σ vs) H' fun σ2 H2 => wipe σ2 vs = wipe σ vs ∧ tt σ2 H2 fun b H3 => if b = true then te σ2 H3 Qy else Qn H3) :
    EvX S b (l.length * k) (tLc wi g tt te vs) σ B (fun v B' => ∃ ys, Pr l.length ys ∧ Dp K B' v (.list (ys.map encY))) := fun H c w hb hB hlid Q q => by
  refine hk S H w _ fun J B1 H1 e1 eB1 w1 hgo hstop hyld Dl hD => ?_
  rw [List.length_map] at hgo hstop hyld
  have nbD : Dl ≠ b := fun z => by
    obtain ⟨o, ho⟩ := (hB.ex e1).some
    rw [← z, hD] at ho
    cases ho
  refine ⟨fun i m H' => m = l.length - i ∧ i ≤ l.length ∧ Xs [b] H1 H' ∧ BoxAt H' b (c + i * k) ∧ ∃ B' acc ys, Ex B1 B' ∧ Wd (Dl :: S) B' H' ∧ H' Dl = some (.lst acc) ∧ Pr i ys ∧ DpAll K B' acc (ys.map encY),
    ⟨l.length, by omega, Nat.zero_le _, Xs.of (Ex.new hD), ((hB.ex e1).ex (Ex.new hD)).mono (by omega), B1, [], [], Ex.refl _, w1.own hD, upd_same, h0, .nil⟩, ?_⟩
  rintro i m H2 ⟨rfl, hi, xH, hB2, B2, acc, ys, eB2, w2, hA, hP, hd⟩
  by_cases hlt : i < l.length
  · obtain ⟨a, ha⟩ : ∃ a, l[i]? = some a := ⟨l[i], List.getElem?_eq_getElem hlt⟩
    have hmul : (i + 1) * k ≤ l.length * k := Nat.mul_le_mul_right k hlt
    have hsuc : (i + 1) * k = i * k + k := Nat.succ_mul i k
    refine .inr ⟨hgo i H2 (eB2.trans w2.ex) hlt, fun H' => Xs [b] H1 H' ∧ BoxAt H' b (c + (i + 1) * k) ∧ ∃ B' acc ys, Ex B1 B' ∧ Wd (Dl :: S) B' H' ∧ H' Dl = some (.lst acc) ∧ Pr (i + 1) ys ∧ DpAll K B' acc (ys.map encY), fun H' ⟨h1, h2, h3⟩ => ⟨l.length - (i + 1), by omega, rfl, by omega, h1, h2, h3⟩, fun x H3 hy => ?_⟩
    obtain ⟨B3, e3, eB3, w3, d, hd1, hd2⟩ := hyld i (Dl :: S) B2 H2 x H3 eB2 w2 hlt hy
    have ed : enc a = d := by
      rw [List.getElem?_map, ha] at hd1
      exact Option.some.inj hd1
    subst ed
    have hA3 := e3 _ _ hA
    have hlen2 : acc.length ≤ 40000 := by
      have := hlen _ _ hP
      rw [DpAll.length hd, List.length_map]
      omega
    refine turn i a ys ha hP x (Dl :: S) B3 H3 (c + i * k) (eB1.trans (eB2.trans eB3)) w3 (List.mem_cons_of_mem _ hb) (hB2.ex e3) (by omega) hd2 _ _ (fun y yv B4 H4 x4 hB4 w4 eB4 hy4 hP4 => ?_) (fun hP4 B4 H4 x4 hB4 w4 eB4 => ?_)
    · have hA4 := x4 _ _ (fun z => nbD (List.mem_singleton.mp z)) hA3
      refine ⟨acc, hA4, sz_lt (by omega), ?_, (hB4.mono (by omega)).upd nbD.symm, B4, acc ++ [yv], ys ++ [y], eB2.trans (eB3.trans eB4), w4.put List.mem_cons_self, upd_same, hP4, ?_⟩
      · intro p o hp ho
        rw [upd_ne (ne_of_none ho hD)]
        exact x4 p o hp (e3 _ _ (xH p o hp ho))
      · rw [List.map_append]
        exact DpAll.snoc (DpAll.mono (eB3.trans eB4) hd) hy4
    · exact ⟨xH.trans ((Xs.of e3).trans x4), hB4.mono (by omega), B4, acc, ys, eB2.trans (eB3.trans eB4), w4, x4 _ _ (fun z => nbD (List.mem_singleton.mp z)) hA3, hP4, DpAll.mono (eB3.trans eB4) hd⟩
  · have ei : i = l.length := by omega
    subst ei
    refine .inl ⟨hstop _ H2 (eB2.trans w2.ex) (Nat.le_refl _), q _ _ ((Xs.of e1).trans xH) hB2 ?_⟩
    have w4 := w2.give hA (w1.nin hD)
    exact ⟨ys, hP, Dp.mono (ex_mi w4.ex w4.no) (.lst (sq_of upd_same) (DpAll.mono w2.giveE hd))⟩
end
/-! ### the promises of the law's draws -/
def spTake : Sp := fun vs H Q _ => ∃ (b : Addr) (m : Int) (c : Nat), vs = [.ref b, .int m] ∧ BoxAt H b c ∧ c < 2 ^ 40 ∧ 1 ≤ m ∧ m < 2 ^ 100 ∧ ∀ v H', 0 ≤ v → v < m → Bx b (c + 1) H H' → Q (.int v) H'
/-- a number from the least one to few, or from seven to the most -/
def spMany : Sp := fun vs H Q _ => ∃ (b : Addr) (l f m : Int) (c : Nat), vs = [.ref b, .int l, .int f, .int m] ∧ BoxAt H b c ∧ c + 2 < 2 ^ 40 ∧ l ≤ f ∧ 7 ≤ m ∧ m < 2 ^ 60 ∧ f - l < 2 ^ 60 ∧ ∀ v H', (l ≤ v ∧ v ≤ f ∨ 7 ≤ v ∧ v ≤ m) → Bx b (c + 2) H H' → Q (.int v) H'
def spWeight : Sp := fun vs H Q _ => ∃ (b : Addr) (h : Int) (c : Nat), vs = [.ref b, .int h] ∧ BoxAt H b c ∧ c + 2 < 2 ^ 40 ∧ 0 ≤ h ∧ h < 4 ∧ ∀ v H', 1 ≤ v → v ≤ 1000000000 → Bx b (c + 2) H H' → Q (.int v) H'
def spWeb (K : PySem.W.Frag) : Sp := fun vs H Q _ => ∃ (S : List Addr) (b : Addr) (n : Int) (c : Nat), vs = [.ref b, .int n] ∧ b ∈ S ∧ (∀ s ∈ S, ∃ o, H s = some o) ∧ BoxAt H b c ∧ c + 1000 < 2 ^ 40 ∧ 1 ≤ n ∧ n ≤ 30 ∧
  ∀ v H' ts, WebOk n ts → Dp K (mi H' S) v (webD n ts) → Bx b (c + 1000) H H' → Q v H'
theorem Bx.def {S : List Addr} {b : Addr} {c : Nat} {H H' : Hp} (h : Bx b c H H') (hS : ∀ s ∈ S, ∃ o, H s = some o) : ∀ s ∈ S, ∃ o, H' s = some o := fun s m => by
  by_cases q : s = b
  · rw [q]; exact h.at_.some
  · obtain ⟨o, e⟩ := hS s m
    exact ⟨o, h.at q e⟩
theorem nin_def {S : List Addr} {H : Hp} {p : Addr} (hS : ∀ s ∈ S, ∃ o, H s = some o) (hp : H p = none) : p ∉ S := fun m => by
  obtain ⟨o, e⟩ := hS p m
  rw [hp] at e
  cases e
section
variable {K : PySem.W.Frag} {σ : L2.St} {B H H' : Hp} {S : List Addr} {b : Addr} {k m c : Nat} {te ta tb tl tm : TE} {E : XK}
theorem ex_take {i : Nat} {m : Int} (h : σ[i]? = some (some (.ref b))) (hm : EvD K tm σ B (.int m)) (h1 : 1 ≤ m) (h2 : m < 2 ^ 100) : EvX S b 1 (tCall spTake [] E (tCons (tVar i) (tCons tm tNil))) σ B (IntIn K fun v => 0 ≤ v ∧ v < m) :=
  evX_of (fun H c w hb hB hl Q q => ⟨_, h, hm.bind w fun x B1 H1 e1 eB1 w1 rx => by
    cases rx
    refine ⟨b, m, c, rfl, hB.ex e1, by unfold lid at hl; omega, h1, h2, fun v H2 g1 g2 hx => ?_⟩
    have x2 : Xs [b] H H2 := (Xs.of e1).trans hx.x
    exact q (.int v) (mi H2 S) H2 x2 (w.xsE hb x2) (w.xs hb hB x2 hx.at_) hx.at_ ⟨v, ⟨g1, g2⟩, .int v⟩⟩) stays_int
end
end Pw

/-! ## K10Row -/
namespace Pw
open PySem L2 Evl
def topS (i : Nat) : Stmt := PySem.Challenge.pw_partedweb_k10_sides_weighed.main.body.getD i (.Pass ⟨0, 0, 0, 0⟩)
abbrev s_side_weight : Stmt := topS 1
abbrev s_law_cell_at : Stmt := topS 3
abbrev s_law_box : Stmt := topS 4
abbrev s_law_take : Stmt := topS 5
abbrev s_law_many : Stmt := topS 6
abbrev s_law_weight : Stmt := topS 7
abbrev s_law_web : Stmt := topS 8
abbrev s_law_same : Stmt := topS 9
abbrev s_law_some : Stmt := topS 10
abbrev s_law_due : Stmt := topS 11
abbrev s_law_right : Stmt := topS 12
abbrev s_law : Stmt := topS 13
/-- the built-ins that the module does not bind -/
structure Txt (mg : Str → Option Value) : Prop where
  m_len : mg "len" = none
  m_abs : mg "abs" = none
  m_int : mg "int" = none
  m_dict : mg "dict" = none
  m_sum : mg "sum" = none
  m_range : mg "range" = none
  m_min : mg "min" = none
  m_max : mg "max" = none
  m_tuple : mg "tuple" = none
  m_sorted : mg "sorted" = none
  m_isinstance : mg "isinstance" = none
  m_list : mg "list" = none
  m_str : mg "str" = none
  m_bool : mg "bool" = none
  m_all : mg "all" = none
  m_zip : mg "zip" = none
end Pw

/-! ## K10A -/
namespace Pw
open PySem L2 Evl
section
variable {P : Program} {w : World} {K : PySem.W.Frag} {mg : Str → Option Value} {base : Heap}
/-! ### the law's cells and draws -/
theorem b01 (c : Bool) : -(2 ^ 64) < (if c = true then (1 : Int) else 0) ∧ (if c = true then (1 : Int) else 0) < 2 ^ 64 := by cases c <;> decide
theorem b0 (c : Bool) : 0 ≤ (if c = true then (1 : Int) else 0) := by cases c <;> decide
theorem sc_law_cell_at : FnScope ["_law_script", "_law_k"] ["_law_script", "_law_k"] (defScope s_law_cell_at) := ⟨rfl, rfl, rfl, by decide +kernel, rfl, by decide +kernel, by decide +kernel⟩
def spCellAt (K : PySem.W.Frag) : Sp := fun vs H Q _ => ∃ (l : Addr) (ns : List Int) (k : Nat), vs = [.ref l, .int (k : Int)] ∧ SqL K H l (ns.map V.int) ∧ ∀ z, Q (.int z) H
theorem ok_law_cell_at {f : Addr} {fd : FuncData} (T : Txt mg) (D : Dfn K mg "_law_cell_at" s_law_cell_at ["_law_script", "_law_k"] f fd) : FnOk P w K mg base CX0 1 f fd ["_law_script", "_law_k"] (spCellAt K) := by
  refine D.F.ok sc_law_cell_at (fun vs H Q E h => ?_) (fun cdv A outer s H vs Q E hr h => ?_)
  · obtain ⟨l, ns, k, rfl, _⟩ := h
    rfl
  · obtain ⟨l, ns, k, rfl, hs, q⟩ := h
    refine ⟨_, (pss_cons (ps_if (pt_cmpR op_lt (pv 1) (pe_callB call_len_seq (by rfl) T.m_len (by decide +kernel) (pa_cons (pv 0) pa_nil)) (nomark _))
        (pss_one (ps_ret (pe_ix ix_seq (pv 0) (pv 1) (fun _ _ => rfl))))
        pss_nil)
      (pss_one (ps_ret pe_int))), ?_⟩
    refine ⟨_, rfl, _, rfl, l, _, rfl, .inl hs, _, _, rfl, rfl, _, rfl, ite2 (fun e => ?_) (fun e => ?_)⟩
    · have hk : k < ns.length := by
        have e1 := of_decide_eq_true e
        rw [List.length_map] at e1
        omega
      have hg : (ns.map V.int)[k]? = some (.int ns[k]) := by
        rw [List.getElem?_map, List.getElem?_eq_getElem hk]
        rfl
      exact ⟨_, rfl, _, rfl, .inl ⟨l, _, _, _, rfl, rfl, hs, atI_nat hg, q _⟩⟩
    · exact q _
theorem sc_law_box : FnScope ["_law_script", "_law_k", "_law_cell"] ["_law_script", "_law_k"] (defScope s_law_box) := ⟨rfl, rfl, rfl, by decide +kernel, rfl, by decide +kernel, by decide +kernel⟩
def spBox (K : PySem.W.Frag) : Sp := fun vs H Q _ => ∃ (l : Addr) (ns : List Int) (k : Nat), vs = [.ref l, .int (k : Int)] ∧ SqL K H l (ns.map V.int) ∧ k < 100 ∧ ∀ b H', H b = none → Ex H H' → BoxAt H' b 0 → Q (.ref b) H'
theorem ok_law_box {f f1 : Addr} {fd fd1 : FuncData} (T : Txt mg) (D_law_cell_at : Dfn K mg "_law_cell_at" s_law_cell_at ["_law_script", "_law_k"] f1 fd1) (D : Dfn K mg "_law_box" s_law_box ["_law_script", "_law_k"] f fd) : FnOk P w K mg base CX0 2 f fd ["_law_script", "_law_k"] (spBox K) := by
  have G_law_cell_at : FnOk P w K mg base CX0 1 f1 fd1 ["_law_script", "_law_k"] (spCellAt K) := ok_law_cell_at T D_law_cell_at
  refine D.F.ok sc_law_box (fun vs H Q E h => ?_) (fun cdv A outer s H vs Q E hr h => ?_)
  · obtain ⟨l, ns, k, rfl, _⟩ := h
    rfl
  · obtain ⟨l, ns, k, rfl, hs, hk, q⟩ := h
    have hr_law_cell_at := hr
    refine ⟨_, (pss_cons (ps_set (i := 2) sc_law_box.nd rfl (Or.inl rfl) (pe_call G_law_cell_at hr_law_cell_at (by rfl) D_law_cell_at.g D_law_cell_at.F.kp D_law_cell_at.b .nil pass0 (pa_cons (pv 0) (pa_cons (pv 1) pa_nil))))
      (pss_one (ps_ret (pe_lst (pa_cons (pe_op op_mul (pe_callB call_abs (by rfl) T.m_abs (by decide +kernel) (pa_cons (pv 2) pa_nil)) (pe_callTy call_int1 (by rfl) T.m_int (by decide +kernel) (pa_cons (pe_cmpR op_ge (pe_callB call_abs (by rfl) T.m_abs (by decide +kernel) (pa_cons (pv 2) pa_nil)) (pe_op op_pow pe_int pe_int) (nomark _)) pa_nil))) (pa_cons (pe_op op_add (pe_op op_add (pe_op op_mod (pv 2) pe_int) (pe_op op_mul pe_int (pv 1))) pe_int) (pa_cons pe_int pa_nil))))))), ?_⟩
    refine ⟨_, rfl, _, rfl, l, ns, k, rfl, hs, fun z => ?_⟩
    refine ⟨_, rfl, _, rfl, _, rfl, _, rfl, _, _, rfl, rfl, ⟨by decide, by decide, by decide⟩, _, _, rfl, rfl, .inr ⟨_, rfl, _, _, rfl, rfl, .inr ?_, _, rfl, _, _, rfl, rfl, (by show (0 : Int) < _; decide), _, rfl, _, _, rfl, rfl, .inl ⟨by decide, by decide⟩, _, _, rfl, rfl, _, _, rfl, rfl, by show 3 ≤ sizeLine; decide, fun b hb => ?_⟩⟩
    · exact b01 _
    · refine q b _ hb (Ex.new hb) ⟨_, _, _, upd_same, ?_, ?_, ?_, by decide, by decide⟩
      · refine Int.mul_nonneg (by split <;> omega) (b0 _)
      · have := Int.emod_nonneg z (b := 2305843009213693951) (by decide)
        omega
      · have := Int.emod_lt_of_pos z (b := 2305843009213693951) (by decide)
        omega
theorem sc_law_take : FnScope ["_law_box_here", "_law_many_here", "_law_found", "_law_once", "_law_twice"] ["_law_box_here", "_law_many_here"] (defScope s_law_take) := ⟨rfl, rfl, rfl, by decide +kernel, rfl, by decide +kernel, by decide +kernel⟩
theorem ok_law_take {f : Addr} {fd : FuncData} (D : Dfn K mg "_law_take" s_law_take ["_law_box_here", "_law_many_here"] f fd) : FnOk P w K mg base CX0 1 f fd ["_law_box_here", "_law_many_here"] spTake := by
  refine D.F.ok sc_law_take (fun vs H Q E h => ?_) (fun cdv A outer s H vs Q E hr h => ?_)
  · obtain ⟨b, m, c, rfl, _⟩ := h
    rfl
  · obtain ⟨b, m, c, rfl, ⟨x, y, z, hb, hx, hy, hy2, hz, hzc⟩, hc, hm, hm2, q⟩ := h
    refine ⟨_, (pss_cons (ps_if (pt_cmpR op_gt (pe_ix ix_seq (pv 0) pe_int (fun _ _ => rfl)) pe_int (nomark _))
        (pss_cons (ps_set (i := 2) sc_law_take.nd rfl (Or.inl rfl) (pe_op op_mod (pe_ix ix_seq (pv 0) pe_int (fun _ _ => rfl)) (pv 1)))
        (pss_cons (ps_asg (pe_op op_fdivW (pe_ix ix_seq (pv 0) pe_int (fun _ _ => rfl)) (pv 1)) (pg_sub (pv 0) pe_int set_list))
        (pss_one (ps_ret (pv 2)))))
        pss_nil)
      (pss_cons (ps_asg (pe_op op_add (pe_ix ix_seq (pv 0) pe_int (fun _ _ => rfl)) pe_int) (pg_sub (pv 0) pe_int set_list))
      (pss_cons (ps_set (i := 3) sc_law_take.nd rfl (Or.inl rfl) (pe_op op_mod (pe_op op_mul (pe_op op_add (pe_ix ix_seq (pv 0) pe_int (fun _ _ => rfl)) (pe_op op_mul pe_int (pe_ix ix_seq (pv 0) pe_int (fun _ _ => rfl)))) (pe_op op_add pe_int (pe_ix ix_seq (pv 0) pe_int (fun _ _ => rfl)))) pe_int))
      (pss_cons (ps_set (i := 4) sc_law_take.nd rfl (Or.inl rfl) (pe_op op_mod (pe_op op_mul (pe_op op_add (pv 3) (pe_ix ix_seq (pv 0) pe_int (fun _ _ => rfl))) (pe_op op_add (pe_op op_mod (pv 3) pe_int) pe_int)) pe_int))
      (pss_one (ps_ret (pe_op op_mod (pe_op op_fdiv (pe_op op_mod (pe_op op_add (pe_op op_mul (pv 4) pe_int) (pv 3)) pe_int) pe_int) (pv 1)))))))), ?_⟩
    have a0 : atI [V.int x, V.int y, V.int z] 0 = some (.int x) := rfl
    refine ⟨_, rfl, .inl ⟨b, _, _, _, rfl, rfl, sq_of hb, rfl, _, _, rfl, rfl, _, rfl, ite2 (fun e => ?_) (fun e => ?_)⟩⟩
    · have hx0 : 0 < x := of_decide_eq_true e
      refine ⟨_, rfl, .inl ⟨b, _, _, _, rfl, rfl, sq_of hb, rfl, _, rfl, _, _, rfl, rfl, by show 0 < m; omega, ?_⟩⟩
      refine ⟨_, rfl, .inl ⟨b, _, _, _, rfl, rfl, sq_of hb, rfl, _, rfl, _, _, rfl, rfl, wide_div (b := 100) (by omega) (by omega) (by decide) (by decide), ?_⟩⟩
      refine ⟨_, rfl, b, _, _, 0, rfl, rfl, hb, rfl, ?_⟩
      refine ⟨_, rfl, q _ _ (Int.emod_nonneg _ (by omega)) (Int.emod_lt_of_pos _ (by omega)) ⟨Xs.refl.put (List.mem_singleton.mpr rfl), _, _, _, upd_same, ?_, hy, hy2, hz, by omega⟩⟩
      exact Int.ediv_nonneg hx (by omega)
    · refine ⟨_, rfl, .inl ⟨b, _, _, _, rfl, rfl, sq_of hb, rfl, _, _, rfl, rfl, _, rfl, b, _, _, 2, rfl, rfl, hb, rfl, ?_⟩⟩
      have hb1 : (upd H b (.lst [.int x, .int y, .int (z + 1)])) b = some (.lst [.int x, .int y, .int (z + 1)]) := upd_same
      refine ⟨_, rfl, .inl ⟨b, _, _, _, rfl, rfl, sq_of hb1, rfl, _, rfl, .inl ⟨b, _, _, _, rfl, rfl, sq_of hb1, rfl, _, _, rfl, rfl, .inl ⟨by decide, by decide⟩, _, _, rfl, rfl, ?_⟩⟩⟩
      refine ⟨_, rfl, .inl ⟨b, _, _, _, rfl, rfl, sq_of hb1, rfl, _, _, rfl, rfl, _, _, rfl, rfl, .inr ⟨by omega, by omega⟩, _, _, rfl, rfl, (by show (0 : Int) < _; decide), ?_⟩⟩
      have h3 := Int.emod_nonneg ((y + 48271 * (z + 1)) * (39373 + (z + 1))) (b := 2147483647) (by decide)
      have h4 := Int.emod_lt_of_pos ((y + 48271 * (z + 1)) * (39373 + (z + 1))) (b := 2147483647) (by decide)
      generalize (y + 48271 * (z + 1)) * (39373 + (z + 1)) % 2147483647 = once at h3 h4 ⊢
      have h5 := Int.emod_nonneg once (b := 40009) (by decide)
      have h6 := Int.emod_lt_of_pos once (b := 40009) (by decide)
      refine ⟨_, rfl, _, rfl, .inl ⟨b, _, _, _, rfl, rfl, sq_of hb1, rfl, _, _, rfl, rfl, _, rfl, _, _, rfl, rfl, (by show (0 : Int) < _; decide), _, _, rfl, rfl, _, _, rfl, rfl, .inr ⟨by omega, by omega⟩, _, _, rfl, rfl, (by show (0 : Int) < _; decide), ?_⟩⟩
      have h7 := Int.emod_nonneg ((once + (z + 1)) * (once % 40009 + 7)) (b := 2147483629) (by decide)
      have h8 := Int.emod_lt_of_pos ((once + (z + 1)) * (once % 40009 + 7)) (b := 2147483629) (by decide)
      generalize (once + (z + 1)) * (once % 40009 + 7) % 2147483629 = twice at h7 h8 ⊢
      refine ⟨_, rfl, _, _, rfl, rfl, .inr ⟨by decide, by decide⟩, _, rfl, _, _, rfl, rfl, _, _, rfl, rfl, (by show (0 : Int) < _; decide), _, _, rfl, rfl, ⟨by decide, by decide⟩, _, rfl, _, _, rfl, rfl, by show 0 < m; omega, ?_⟩
      exact q _ _ (Int.emod_nonneg _ (by omega)) (Int.emod_lt_of_pos _ (by omega)) ⟨Xs.refl.put (List.mem_singleton.mpr rfl), _, _, _, upd_same, hx, hy, hy2, by omega, by omega⟩
theorem sc_law_many : FnScope ["_law_box_here", "_law_least", "_law_few", "_law_most"] ["_law_box_here", "_law_least", "_law_few", "_law_most"] (defScope s_law_many) := ⟨rfl, rfl, rfl, by decide +kernel, rfl, by decide +kernel, by decide +kernel⟩
theorem ok_law_many {f f1 : Addr} {fd fd1 : FuncData} (D_law_take : Dfn K mg "_law_take" s_law_take ["_law_box_here", "_law_many_here"] f1 fd1) (D : Dfn K mg "_law_many" s_law_many ["_law_box_here", "_law_least", "_law_few", "_law_most"] f fd) : FnOk P w K mg base CX0 2 f fd ["_law_box_here", "_law_least", "_law_few", "_law_most"] spMany := by
  have G_law_take : FnOk P w K mg base CX0 1 f1 fd1 ["_law_box_here", "_law_many_here"] spTake := ok_law_take D_law_take
  refine D.F.ok sc_law_many (fun vs H Q E h => ?_) (fun cdv A outer s H vs Q E hr h => ?_)
  · obtain ⟨b, l, f, m, c, rfl, _⟩ := h
    rfl
  · obtain ⟨b, l, f, m, c, rfl, hb, hc, hlf, hm, hm2, hfl, q⟩ := h
    have hr_law_take := hr
    refine ⟨_, (pss_cons (ps_if (pt_cmpR op_eq (pe_call G_law_take hr_law_take (by rfl) D_law_take.g D_law_take.F.kp D_law_take.b .nil pass0 (pa_cons (pv 0) (pa_cons pe_int pa_nil))) pe_int (nomark _))
        (pss_one (ps_ret (pe_op op_add pe_int (pe_call G_law_take hr_law_take (by rfl) D_law_take.g D_law_take.F.kp D_law_take.b .nil pass0 (pa_cons (pv 0) (pa_cons (pe_op op_sub (pv 3) pe_int) pa_nil))))))
        pss_nil)
      (pss_one (ps_ret (pe_op op_add (pv 1) (pe_call G_law_take hr_law_take (by rfl) D_law_take.g D_law_take.F.kp D_law_take.b .nil pass0 (pa_cons (pv 0) (pa_cons (pe_op op_add (pe_op op_sub (pv 2) (pv 1)) pe_int) pa_nil))))))), ?_⟩
    refine ⟨_, rfl, b, 8, c, rfl, hb, by omega, by decide, by decide, fun v H1 h1 h2 hb1 => ⟨rfl, _, rfl, ite2 (fun _ => ?_) (fun _ => ?_)⟩⟩
    · refine ⟨_, rfl, _, rfl, _, _, rfl, rfl, b, _, c + 1, rfl, hb1.at_, by omega, by omega, by omega, fun v H2 h1 h2 hb2 => ⟨_, _, rfl, rfl, q _ _ (.inr ⟨by omega, by omega⟩) (hb1.trans hb2)⟩⟩
    · refine ⟨_, rfl, _, rfl, _, rfl, _, rfl, _, _, rfl, rfl, _, _, rfl, rfl, b, _, c + 1, rfl, hb1.at_, by omega, by omega, by omega, fun v H2 h1 h2 hb2 => ⟨_, _, rfl, rfl, q _ _ (.inl ⟨by omega, by omega⟩) (hb1.trans hb2)⟩⟩
theorem sc_law_weight : FnScope ["_law_box_here", "_law_heavy"] ["_law_box_here", "_law_heavy"] (defScope s_law_weight) := ⟨rfl, rfl, rfl, by decide +kernel, rfl, by decide +kernel, by decide +kernel⟩
theorem ok_law_weight {f f1 : Addr} {fd fd1 : FuncData} (D_law_take : Dfn K mg "_law_take" s_law_take ["_law_box_here", "_law_many_here"] f1 fd1) (D : Dfn K mg "_law_weight" s_law_weight ["_law_box_here", "_law_heavy"] f fd) : FnOk P w K mg base CX0 2 f fd ["_law_box_here", "_law_heavy"] spWeight := by
  have G_law_take : FnOk P w K mg base CX0 1 f1 fd1 ["_law_box_here", "_law_many_here"] spTake := ok_law_take D_law_take
  refine D.F.ok sc_law_weight (fun vs H Q E h => ?_) (fun cdv A outer s H vs Q E hr h => ?_)
  · obtain ⟨b, h, c, rfl, _⟩ := h
    rfl
  · obtain ⟨b, h, c, rfl, hb, hc, h0, h4, q⟩ := h
    have hr_law_take := hr
    refine ⟨_, (pss_one (ps_ret (pe_op op_add pe_int (pe_call G_law_take hr_law_take (by rfl) D_law_take.g D_law_take.F.kp D_law_take.b .nil pass0 (pa_cons (pv 0) (pa_cons (pe_ix ix_list (pe_lst (pa_cons pe_int (pa_cons pe_int (pa_cons pe_int (pa_cons (pe_ix ix_list (pe_lst (pa_cons pe_int (pa_cons pe_int (pa_cons (pe_op op_pow pe_int pe_int) pa_nil)))) (pe_call G_law_take hr_law_take (by rfl) D_law_take.g D_law_take.F.kp D_law_take.b .nil pass0 (pa_cons (pv 0) (pa_cons pe_int pa_nil))) (fun _ _ => rfl)) pa_nil))))) (pv 1) (fun _ _ => rfl)) pa_nil)))))), ?_⟩
    refine ⟨_, rfl, _, _, rfl, rfl, ⟨by decide, by decide, by decide⟩, (by show 3 ≤ sizeLine; decide), fun p hp => ?_⟩
    have np : b ≠ p := hb.ne hp
    refine ⟨_, rfl, b, 3, c, rfl, hb.upd np, by omega, by decide, by decide, fun v H1 h1 h2 hb1 => ?_⟩
    have ep : H1 p = some (.lst [.int 10, .int 100, .int (10 ^ 9)]) := hb1.at np.symm upd_same
    obtain ⟨r, hr1, hr2, hr3⟩ : ∃ r : Int, atI [V.int 10, V.int 100, V.int (10 ^ 9)] v = some (.int r) ∧ 10 ≤ r ∧ r ≤ 1000000000 := by
      have : v = 0 ∨ v = 1 ∨ v = 2 := by omega
      rcases this with rfl | rfl | rfl
      · exact ⟨10, rfl, by decide, by decide⟩
      · exact ⟨100, rfl, by decide, by decide⟩
      · exact ⟨10 ^ 9, rfl, by decide, by decide⟩
    refine ⟨p, _, _, _, rfl, rfl, sq_of ep, hr1, (by show 4 ≤ sizeLine; decide), fun p2 hp2 => ?_⟩
    have np2 : b ≠ p2 := hb1.at_.ne hp2
    obtain ⟨t, ht1, ht2, ht3⟩ : ∃ t : Int, atI [V.int 1, V.int 3, V.int 9, V.int r] h = some (.int t) ∧ 1 ≤ t ∧ t ≤ 1000000000 := by
      have : h = 0 ∨ h = 1 ∨ h = 2 ∨ h = 3 := by omega
      rcases this with rfl | rfl | rfl | rfl
      · exact ⟨1, rfl, by decide, by decide⟩
      · exact ⟨3, rfl, by decide, by decide⟩
      · exact ⟨9, rfl, by decide, by decide⟩
      · exact ⟨r, rfl, by omega, by omega⟩
    refine ⟨_, rfl, p2, _, _, _, rfl, rfl, sq_of upd_same, ht1, b, t, c + 1, rfl, hb1.at_.upd np2, by omega, by omega, by omega, fun u H2 h3 h4 hb2 => ⟨_, _, rfl, rfl, q _ _ (by omega) (by omega) ?_⟩⟩
    exact (Bx.pre (Ex.new hp) hb1).trans (Bx.pre (Ex.new hp2) hb2)
end
end Pw

/-! ## K10B -/
namespace Pw
open PySem L2 Evl
section
variable {P : Program} {w : World} {K : PySem.W.Frag} {mg : Str → Option Value} {base : Heap}
abbrev psWeb : List Str := ["_law_box_here", "_law_many_here"]
abbrev nmWeb : List Str := ["_law_box_here", "_law_many_here", "_law_heavy", "_law_ties", "_law_place", "_law_turn", "_law_one", "_law_other", "_law_pair"]
theorem sc_law_web : FnScope nmWeb psWeb (defScope s_law_web) := ⟨rfl, rfl, rfl, by decide +kernel, rfl, by decide +kernel, by decide +kernel⟩
theorem ok_law_web {f f1 f2 : Addr} {fd fd1 fd2 : FuncData} (T : Txt mg) (D_law_take : Dfn K mg "_law_take" s_law_take ["_law_box_here", "_law_many_here"] f1 fd1) (D_law_weight : Dfn K mg "_law_weight" s_law_weight ["_law_box_here", "_law_heavy"] f2 fd2)
    (D : Dfn K mg "_law_web" s_law_web psWeb f fd) : FnOk P w K mg base CX0 3 f fd psWeb (spWeb K) := by
  have G_law_take : FnOk P w K mg base CX0 1 f1 fd1 ["_law_box_here", "_law_many_here"] spTake := ok_law_take D_law_take
  have G_law_weight : FnOk P w K mg base CX0 2 f2 fd2 ["_law_box_here", "_law_heavy"] spWeight := ok_law_weight D_law_take D_law_weight
  refine D.F.ok sc_law_web (fun vs H Q E h => ?_) (fun cdv A outer s H vs Q E hr h => ?_)
  · obtain ⟨S, b, n, c, rfl, _⟩ := h
    rfl
  · obtain ⟨S, b, n, c, rfl, hbS, hSd, hb, hc, hn, hn2, q⟩ := h
    have hr_law_weight := hr
    have hr_law_take := hr.mono (show 1 ≤ 2 by decide)
    have hu := hu_of hr
    refine ⟨_, (pss_cons (ps_set (i := 2) sc_law_web.nd rfl (Or.inl rfl) (pe_call G_law_take hr_law_take (by rfl) D_law_take.g D_law_take.F.kp D_law_take.b .nil pass0 (pa_cons (pv 0) (pa_cons pe_int pa_nil))))
      (pss_cons (ps_set (i := 3) sc_law_web.nd rfl (Or.inr rfl) pe_dnewT)
      (pss_cons (ps_for PassesOwn.never rfl (pi_range2 (by rfl) T.m_range (pa_cons pe_int (pa_cons (pv 1) pa_nil))) (pg_name (i := 4) sc_law_web.nd rfl (Or.inl rfl))
        (pss_one (ps_if (pt_cmpR op_gt (pe_call G_law_take hr_law_take (by rfl) D_law_take.g D_law_take.F.kp D_law_take.b .nil pass0 (pa_cons (pv 0) (pa_cons pe_int pa_nil))) pe_int (nomark _))
          (pss_one (ps_dput hu (pv 3) (pe_tup (pa_cons (pe_call G_law_take hr_law_take (by rfl) D_law_take.g D_law_take.F.kp D_law_take.b .nil pass0 (pa_cons (pv 0) (pa_cons (pv 4) pa_nil))) (pa_cons (pv 4) pa_nil))) (pe_call G_law_weight hr_law_weight (by rfl) D_law_weight.g D_law_weight.F.kp D_law_weight.b .nil pass0 (pa_cons (pv 0) (pa_cons (pv 2) pa_nil))) rfl))
          pss_nil)))
      (pss_cons (ps_for PassesOwn.never rfl (pi_range1 (by rfl) T.m_range (pa_cons (pe_callB (call_min2 rfl) (by rfl) T.m_min (by decide +kernel) (pa_cons (pe_call G_law_take hr_law_take (by rfl) D_law_take.g D_law_take.F.kp D_law_take.b .nil pass0 (pa_cons (pv 0) (pa_cons (pe_op op_add (pe_op op_mul pe_int (pv 1)) pe_int) pa_nil))) (pa_cons (pe_op op_sub pe_int (pv 1)) pa_nil))) pa_nil)) (pg_name (i := 5) sc_law_web.nd rfl (Or.inl rfl))
        (pss_cons (ps_par (i := 6) (j := 7) (by rfl) sc_law_web.nd rfl rfl (by decide) rfl rfl (pa_cons (pe_call G_law_take hr_law_take (by rfl) D_law_take.g D_law_take.F.kp D_law_take.b .nil pass0 (pa_cons (pv 0) (pa_cons (pv 1) pa_nil))) (pa_cons (pe_call G_law_take hr_law_take (by rfl) D_law_take.g D_law_take.F.kp D_law_take.b .nil pass0 (pa_cons (pv 0) (pa_cons (pv 1) pa_nil))) pa_nil)) (by rfl))
        (pss_one (ps_if (pt_cmpR op_ne (pv 6) (pv 7) (nomark _))
          (pss_one (ps_dput hu (pv 3) (pe_tup (pa_cons (pe_callB (call_min2 rfl) (by rfl) T.m_min (by decide +kernel) (pa_cons (pv 6) (pa_cons (pv 7) pa_nil))) (pa_cons (pe_callB (call_max2 rfl) (by rfl) T.m_max (by decide +kernel) (pa_cons (pv 6) (pa_cons (pv 7) pa_nil))) pa_nil))) (pe_call G_law_weight hr_law_weight (by rfl) D_law_weight.g D_law_weight.F.kp D_law_weight.b .nil pass0 (pa_cons (pv 0) (pa_cons (pv 2) pa_nil))) rfl))
          pss_nil))))
      (pss_one (ps_ret (pe_tup (pa_cons (pv 1) (pa_cons (pe_callTy call_tuple_of (by rfl) T.m_tuple (by decide +kernel) (pa_cons (pe_lc (own := [("_law_pair", 8)]) (g := (gName 8)) (by rfl) sc_law_web.nd (pi_list (pe_callB (cr_sortedDT rfl hr.units) (by rfl) T.m_sorted (by decide +kernel) (pa_cons (pv 3) pa_nil))) (blkOk_by (own := [("_law_pair", 8)]) (N := nmWeb) (sc := defScope s_law_web) (by decide +kernel)) (fun _ _ _ _ _ => (pg_name (i := 8) sc_law_web.nd rfl (Or.inl rfl))) (fun _ _ _ _ _ => pts_nil) (fun _ _ _ _ _ => (pe_op (r := rCatT K) op_catT (pv 8) (pe_tup (pa_cons (pe_dget hu (pv 3) (pv 8) (fun _ _ => rfl)) pa_nil))))) pa_nil)) pa_nil))))))))), ?_⟩
    -- heavy
    refine ⟨_, rfl, b, 4, c, rfl, hb, by omega, by decide, by decide, fun hv H1 hv1 hv2 hb1 => ?_⟩
    -- ties
    refine fun d hd1 => ?_
    have nbd : b ≠ d := hb1.at_.ne hd1
    have hd : H d = none := hb1.free hd1
    have hb2 : Bx b (c + 1) H (upd H1 d (.dT [])) := hb1.own hd nbd
    -- for place in range(1, many)
    refine ⟨_, rfl, 1, n, rfl, ⟨by decide, by decide, by omega, by omega⟩, for_range (lo := 1) (n := (n - 1).toNat) (fun i σ H' => ∃ (kvs : List (List Key × V)) (x4 : Option V), σ = [some (.ref b), some (.int n), some (.int hv), some (.ref d), x4, none, none, none, none] ∧ Bx b (c + 1 + 4 * i) H H' ∧ H' d = some (.dT kvs) ∧ TieKvs n kvs ∧ kvs.length ≤ i)
      ⟨[], none, rfl, hb2, upd_same, .nil, Nat.le_refl _⟩ ?_ ?_⟩
    · rintro i σ H2 hi ⟨kvs, x4, rfl, hb2, hd2, hk, hl⟩
      refine ⟨_, rfl, b, 9, _, rfl, hb2.at_, by omega, by decide, by decide, fun v H3 h1 h2 hb3 => ⟨_, _, rfl, rfl, _, rfl, ite2 (fun _ => ?_) (fun _ => ?_)⟩⟩
      · have hd3 := hb3.at nbd.symm hd2
        refine ⟨_, rfl, _, rfl, b, hv, _, rfl, hb3.at_, by omega, by omega, by omega, fun wt H4 h1 h2 hb4 => ?_⟩
        have hd4 := hb4.at nbd.symm hd3
        refine ⟨_, rfl, _, rfl, _, rfl, b, _, _, rfl, hb4.at_, by omega, by omega, by omega, fun a H5 h3 h4 hb5 => ?_⟩
        have hd5 := hb5.at nbd.symm hd4
        refine ⟨_, rfl, (by show 2 ≤ sizeLine; decide), fun p hp => ?_⟩
        refine ⟨d, _, rfl, .t (k := kPair a (1 + (i : Int))) (by rw [upd_ne (ne_of_none hd5 hp)]; exact hd5) upd_same (sz_lt (by omega)), ?_⟩
        exact ⟨putK kvs (kPair a (1 + (i : Int))) (.int wt), _, rfl, ((((hb2.trans hb3).trans hb4).trans hb5).mono (by omega)).new hp |>.own hd nbd, upd_same, hk.put (by omega) (by omega) (by omega) h1 h2, Nat.le_trans (length_putK _ _ _) (by omega)⟩
      · exact ⟨kvs, _, rfl, (hb2.trans hb3).mono (by omega), hb3.at nbd.symm hd2, hk, by omega⟩
    · rintro σ H2 ⟨kvs, x4, rfl, hb2, hd2, hk, hl⟩
      -- for turn in range(min(take(..), 91 - many))
      refine ⟨_, rfl, _, rfl, _, _, rfl, rfl, .inl ⟨by decide, by decide⟩, _, _, rfl, rfl, b, _, _, rfl, hb2.at_, by omega, by omega, by omega, fun v H3 h1 h2 hb3 => ?_⟩
      have hd3 := hb3.at nbd.symm hd2
      refine ⟨_, rfl, _, _, rfl, rfl, _, _, rfl, ?_⟩
      obtain ⟨m, hm, hm1⟩ : ∃ m : Int, (if 91 - n < v then 91 - n else v) = m ∧ 0 ≤ m ∧ m ≤ 91 - n := by
        refine ⟨_, rfl, ?_⟩
        split <;> omega
      rw [hm]
      have hb4 := (hb2.trans hb3).mono (d := c + 150) (by omega)
      refine ⟨m, rfl, by omega, by omega, for_range (lo := 0) (n := m.toNat) (fun i σ H' => ∃ (kvs : List (List Key × V)) (x4 x5 x6 x7 : Option V), σ = [some (.ref b), some (.int n), some (.int hv), some (.ref d), x4, x5, x6, x7, none] ∧ Bx b (c + 150 + 5 * i) H H' ∧ H' d = some (.dT kvs) ∧ TieKvs n kvs ∧ kvs.length ≤ (n - 1).toNat + i)
        ⟨kvs, x4, none, none, none, rfl, hb4, hd3, hk, hl⟩ ?_ ?_⟩
      · rintro i σ H4 hi ⟨kvs, x4, x5, x6, x7, rfl, hb4, hd4, hk, hl⟩
        refine ⟨_, rfl, _, rfl, b, n, _, rfl, hb4.at_, by omega, by omega, by omega, fun one H5 h1 h2 hb5 => ⟨_, rfl, _, rfl, b, n, _, rfl, hb5.at_, by omega, by omega, by omega, fun two H6 h3 h4 hb6 => ⟨_, _, rfl, ?_⟩⟩⟩
        have hb7 := (hb4.trans hb5).trans hb6
        have hd6 := hb6.at nbd.symm (hb5.at nbd.symm hd4)
        refine ⟨_, rfl, _, rfl, rfl, _, rfl, ite2 (fun e => ?_) (fun _ => ?_)⟩
        · have hne : one ≠ two := fun z => by
            rw [z] at e
            simp at e
          refine ⟨_, rfl, _, rfl, b, hv, _, rfl, hb7.at_, by omega, by omega, by omega, fun wt H7 h5 h6 hb8 => ?_⟩
          have hd7 := hb8.at nbd.symm hd6
          refine ⟨_, rfl, _, rfl, _, rfl, _, _, rfl, _, rfl, _, rfl, _, _, rfl, (by show 2 ≤ sizeLine; decide), fun p hp => ?_⟩
          obtain ⟨x, y, ex, ey, hx0, hxy, hyn⟩ : ∃ x y : Int, (if two < one then two else one) = x ∧ (if two > one then two else one) = y ∧ 0 ≤ x ∧ x < y ∧ y < n := by
            refine ⟨_, _, rfl, rfl, ?_⟩
            split <;> split <;> omega
          rw [ex, ey]
          refine ⟨d, _, rfl, .t (k := kPair x y) (by rw [upd_ne (ne_of_none hd7 hp)]; exact hd7) upd_same (sz_lt (by omega)), ?_⟩
          exact ⟨putK kvs (kPair x y) (.int wt), _, _, _, _, rfl, ((hb7.trans hb8).mono (by omega)).new hp |>.own hd nbd, upd_same, hk.put hx0 hxy hyn h5 h6, Nat.le_trans (length_putK _ _ _) (by omega)⟩
        · exact ⟨kvs, _, _, _, _, rfl, hb7.mono (by omega), hd6, hk, by omega⟩
      · rintro σ H4 ⟨kvs, x4, x5, x6, x7, rfl, hb4, hd4, hk, hl⟩
        have hl2 : kvs.length ≤ 100 := by omega
        obtain ⟨ks, hks, hkl, hkk⟩ := TieKvs.keys hk.1
        -- the tuple
        refine ⟨_, rfl, _, rfl, d, kvs, ks, rfl, .of hd4, hks, fun k hk' => ?_, fun bs L hbs hbt hL => ?_⟩
        · obtain ⟨a, b', rfl⟩ := hkk k hk'
          exact List.cons_ne_nil _ _
        have hbs2 : kvs.map (·.1) = (bs.map (·.2)).map (·.map Sum.inl) := by rw [hbs]; exact hks
        have hweb := web_of hn hk hbs2 hl2
        have nbL : b ≠ L := hb4.at_.ne hL
        have ndL : d ≠ L := ne_of_none hd4 hL
        refine ⟨L, rfl, ⟨_, sq_of upd_same⟩, fun D hD => ?_⟩
        have e4 : Ex H4 (upd H4 L (.lst ((bs.mergeSort leTI).map fun b => V.ref b.1))) := Ex.new hL
        generalize hH5 : upd H4 L (.lst ((bs.mergeSort leTI).map fun b => V.ref b.1)) = H5 at e4 hD ⊢
        have hL5 : H5 L = some (.lst ((bs.mergeSort leTI).map fun b => V.ref b.1)) := by rw [← hH5]; exact upd_same
        have hd5 : H5 d = some (.dT kvs) := e4 _ _ hd4
        have hb5 : Bx b (c + 1000) H H5 := (hb4.ext e4).mono (by omega)
        have nbD : b ≠ D := hb5.at_.ne hD
        have ndD : d ≠ D := ne_of_none hd5 hD
        refine lc_list (K := K) (a := L) (xs := (bs.mergeSort leTI).map fun b => V.ref b.1) (fun i H' => Ex H5 H' ∧ ∃ acc, H' D = some (.lst acc) ∧ DpAll K (mi H' (D :: S)) acc ((((bs.mergeSort leTI).map fun b => tieOf kvs b.2).take i).map tieD))
          ⟨Ex.new hD, [], upd_same, .nil⟩ (fun i H' _ h => sq_of (h.1 _ _ hL5)) ?_ ?_
        · rintro i x H6 hx ⟨e6, acc, hA, hdp⟩
          rw [List.getElem?_map] at hx
          obtain ⟨bb, hbb, rfl⟩ := Option.map_eq_some_iff.mp hx
          have hmem : bb ∈ bs := (sortTI_perm bs).mem_iff.mp (List.mem_of_getElem? hbb)
          obtain ⟨a1, a2, wt, ek, ev, et, _⟩ := hk.at hbs2 (List.mem_map.mpr ⟨bb, hmem, rfl⟩)
          have hbb6 : H6 bb.1 = some (.tup (bb.2.map V.int)) := e6 _ _ (e4 _ _ (hbt bb hmem))
          refine ⟨rfl, ?_⟩
          refine ⟨_, rfl, _, rfl, _, rfl, d, .int wt, rfl, .inr ⟨kvs, bb.2.map Sum.inl, bb.1, .of (e6 _ _ hd5), rfl, ?_, ev.symm⟩, (by show 1 ≤ sizeLine; decide), fun p hp => ?_⟩
          · rw [hbb6, List.map_map]
            rfl
          have hp1 : bb.1 ≠ p := ne_of_none hbb6 hp
          refine ⟨bb.1, p, _, _, rfl, rfl, st_of (by rw [upd_ne hp1]; exact hbb6), st_of upd_same, ?_, ?_, fun z => (by cases z), fun _ p2 hp2 => ?_⟩
          · rw [ek]; exact List.cons_ne_nil _ _
          · rw [ek]; show 3 ≤ sizeLine; decide
          have hA2 : H6 D = some (.lst acc) := hA
          have nD1 : D ≠ p := ne_of_none hA2 hp
          have nD2 : D ≠ p2 := ne_of_none (show (upd H6 p (.tup [.int wt])) D = some (.lst acc) by rw [upd_ne nD1]; exact hA2) hp2
          have e7 : Ex H6 (upd (upd H6 p (.tup [.int wt])) p2 (.tup (bb.2.map V.int ++ [.int wt]))) := (Ex.new hp).trans (Ex.new hp2)
          have hlen : i < bs.length := by
            have := (List.getElem?_eq_some_iff.mp hbb).1
            rw [List.length_mergeSort] at this
            exact this
          have hbl : bs.length ≤ 100 := by
            have e8 := congrArg List.length hbs
            rw [List.length_map] at e8
            omega
          have haccl : acc.length ≤ 100 := by
            have e8 := DpAll.length hdp
            rw [List.length_map, List.length_take, List.length_map, List.length_mergeSort] at e8
            omega
          have hb7 : (upd (upd H6 p (.tup [.int wt])) p2 (.tup (bb.2.map V.int ++ [.int wt]))) D = some (.lst acc) := e7 _ _ hA2
          have n2S : p2 ∉ (D :: S) := fun m => by
            rcases List.mem_cons.mp m with z | m
            · exact nD2 z.symm
            · obtain ⟨o, ho⟩ := hb5.def hSd p2 m
              rw [(Ex.new hp) _ _ (e6 _ _ ho)] at hp2
              cases hp2
          refine ⟨acc, hb7, sz_lt (by omega), (e6.trans e7).mut hD, acc ++ [.ref p2], upd_same, ?_⟩
          have e9 : Ex (mi H6 (D :: S)) (mi (upd (upd (upd H6 p (.tup [.int wt])) p2 (.tup (bb.2.map V.int ++ [.int wt]))) D (.lst (acc ++ [.ref p2]))) (D :: S)) :=
            ex_mi (ex_upd (mi_ex.trans e7) (mi_no List.mem_cons_self)) fun a m => mi_no m
          have et2 : ((bs.mergeSort leTI).map fun b => tieOf kvs b.2)[i]? = some (a1, a2, wt) := by
            rw [List.getElem?_map, hbb]
            show some (tieOf kvs bb.2) = _
            rw [et]
          rw [List.take_add_one, et2, List.map_append]
          refine DpAll.snoc (DpAll.mono e9 hdp) (.tup (xs := [.int a1, .int a2, .int wt]) (st_of ?_) (.cons (.int _) (.cons (.int _) (.cons (.int _) .nil))))
          rw [mi_at n2S, upd_ne nD2.symm, upd_same, ek]
          rfl
        · rintro H6 ⟨e6, acc, hA, hdp⟩
          have hlen2 : ((bs.mergeSort leTI).map fun b => V.ref b.1).length = ((bs.mergeSort leTI).map fun b => tieOf kvs b.2).length := by rw [List.length_map, List.length_map]
          rw [hlen2, List.take_length] at hdp
          refine ⟨D, acc, rfl, .inl ⟨sq_of hA, fun t ht => ⟨(by show 2 ≤ sizeLine; decide), fun r hr2 => ?_⟩⟩⟩
          have hb6 := hb5.ext e6
          have nbt : t ∉ S := nin_def (hb6.def hSd) ht
          have hb8 := hb6.new (o := .tup acc) ht
          have nbr : r ∉ S := nin_def (hb8.def hSd) hr2
          have hb9 := hb8.new (o := .tup [.int n, .ref t]) hr2
          refine q _ _ _ hweb ?_ hb9
          have nrt : t ≠ r := fun z => by rw [← z, upd_same] at hr2; cases hr2
          refine .tup (xs := [.int n, .ref t]) (st_of (by rw [mi_at nbr]; exact upd_same)) (.cons (.int _) (.cons (.tup (xs := acc) (st_of ?_) ?_) .nil))
          · rw [mi_at nbt, upd_ne nrt, upd_same]
          · refine DpAll.mono ?_ hdp
            exact (ex_miw (S := S) (fun a m => List.mem_cons_of_mem _ m)).trans (ex_mim ((Ex.new ht).trans (Ex.new hr2)))
end
end Pw

/-! ## K10C -/
namespace Pw
open PySem L2 Evl
/-- what the ties weigh of which just one end is in the side -/
def sideW (ts : List Tie) (side : List Int) : Int := ((ts.filter fun t => decide (t.1 ∈ side) != decide (t.2.1 ∈ side)).map (·.2.2)).sum
section
variable {P : Program} {w : World} {K : PySem.W.Frag} {mg : Str → Option Value} {base : Heap}
abbrev nm_side_weight : List Str := ["web", "side", "there", "place", "a", "b", "weight"]
theorem sc_side_weight : FnScope nm_side_weight ["web", "side"] (defScope s_side_weight) := ⟨rfl, rfl, rfl, by decide +kernel, rfl, by decide +kernel, by decide +kernel⟩
def fSide (ds : List PyData) (d : PyData) : Prop := ∃ n ts t side, ds = [webD n ts, seqD t (side.map .int)] ∧ WebOk n ts ∧ side.length ≤ 1000 ∧ d = .int (sideW ts side)
theorem ok_side_weight {f : Addr} {fd : FuncData} (T : Txt mg) (D : Dfn K mg "side_weight" s_side_weight ["web", "side"] f fd) : FnOk P w K mg base CX0 1 f fd ["web", "side"] (spD K fSide) := by
  refine D.F.ok sc_side_weight (fun vs H Q E h => ?_) (fun cdv A outer s H vs Q E hr h => ?_)
  · obtain ⟨S, B, ds, d, w, hd, ⟨n, ts, t, side, rfl, _⟩, _⟩ := h
    exact DpAll.length hd
  · obtain ⟨S, B, ds, d, w, hd, ⟨n, ts, t, side, rfl, hw, hl, rfl⟩, q⟩ := h
    have hu := hu_of hr
    obtain ⟨v1, v2, rfl, h1, h2⟩ : ∃ v1 v2, vs = [v1, v2] ∧ Dp K B v1 (webD n ts) ∧ Dp K B v2 (seqD t (side.map .int)) := by
      cases hd with
      | cons a r => cases r with
        | cons b r => cases r; exact ⟨_, _, rfl, a, b⟩
    refine ⟨_, (pss_cons (ps_set (i := 2) sc_side_weight.nd rfl (Or.inr rfl) (pe_callTy (call_dictP rfl) (by rfl) T.m_dict (by decide +kernel) (pa_cons (pe_lc (own := [("place", 3)]) (g := (gName 3)) (by rfl) sc_side_weight.nd (pi_or (pi_list (pv 1)) (pi_tup (pv 1))) (blkOk_by (own := [("place", 3)]) (N := nm_side_weight) (sc := defScope s_side_weight) (by decide +kernel)) (fun _ _ _ _ _ => (pg_name (i := 3) sc_side_weight.nd rfl (Or.inl rfl))) (fun _ _ _ _ _ => pts_nil) (fun _ _ _ _ _ => (pe_tup (pa_cons (pv 3) (pa_cons pe_bl pa_nil))))) pa_nil)))
      (pss_one (ps_ret (pe_callB (cr_sum rfl) (by rfl) T.m_sum (by decide +kernel) (pa_cons (pe_lc (own := [("a", 4), ("b", 5), ("weight", 6)]) (g := (gTup K 3 (gCons (gName 4) (gCons (gName 5) (gCons (gName 6) gNil))))) (by rfl) sc_side_weight.nd (pi_tup (pe_ix ix_seq (pv 0) pe_int (fun _ _ => rfl))) (blkOk_by (own := [("a", 4), ("b", 5), ("weight", 6)]) (N := nm_side_weight) (sc := defScope s_side_weight) (by decide +kernel)) (fun _ _ _ _ _ => (pg_tup (by rfl) (pgs_cons (pg_name (i := 4) sc_side_weight.nd rfl (Or.inl rfl)) (pgs_cons (pg_name (i := 5) sc_side_weight.nd rfl (Or.inl rfl)) (pgs_cons (pg_name (i := 6) sc_side_weight.nd rfl (Or.inl rfl)) pgs_nil))))) (fun _ _ _ _ _ => (pts_one (pt_cmpR op_ne (pe_cmp (pc_din hu (pv 4) (pv 2)) rfl) (pe_cmp (pc_din hu (pv 5) (pv 2)) rfl) (nomark _)))) (fun _ _ _ _ _ => (pv 6))) pa_nil))))), ?_⟩
    refine st_asg w (ev_dset (ks := side) (f := fun _ => .bool true) (ev_is (ev_lc side .int (fun _ => true) (fun k => .tuple [.int k, .bool true]) (wk_seq (ev_var rfl h2)) (by omega) fun k hk =>
      turn_name (fun _ => rfl) (fun _ _ _ _ => eb_yes) fun x B' e hx _ => ev_tup (ea_cons (ev_var rfl hx) (ea_cons ev_bl ea_nil)) (by simp)) (by rw [filter_yes]))) fun v3 B3 H3 e3 eB3 w3 hv3 => ?_
    refine st_ret w3 (ev_is (d' := .int (sideW ts side)) (ev_sum (ns := (ts.filter fun t => decide (t.1 ∈ side) != decide (t.2.1 ∈ side)).map (fun t => t.2.2)) (ev_is (ev_lc ts tieD (fun t => decide (t.1 ∈ side) != decide (t.2.1 ∈ side)) (fun t => .int t.2.2)
      (wk_tup (ev_ix (t := true) (ev_var (v := v1) rfl (Dp.mono eB3 h1)) ev_int rfl)) (by have := hw.len; omega) fun t ht =>
        turn_three (fun _ _ _ => rfl) (fun x1 x2 x3 B' e hx1 hx2 hx3 => eb_test (ev_neB (ev_din (ev_var rfl hx1) (ev_varR rfl (stays_dset _ _ _ e hv3) stays_dset)) (ev_din (ev_var rfl hx2) (ev_varR rfl (stays_dset _ _ _ e hv3) stays_dset)))) fun x1 x2 x3 B' e hx1 hx2 hx3 _ => ev_var rfl hx3) (by rw [List.map_map]; rfl))) rfl)
      fun v B' H' e eB w' r => q v B' H' (e3.trans e) (eB3.trans eB) w' r
end
end Pw

/-! ## K10D -/
namespace Pw
open PySem L2 Evl
theorem two_args {K : PySem.W.Frag} {B : Hp} {vs : List V} {a b : PyData} (h : DpAll K B vs [a, b]) : ∃ v1 v2, vs = [v1, v2] ∧ Dp K B v1 a ∧ Dp K B v2 b := by
  cases h with
  | cons h1 t => cases t with
    | cons h2 t => cases t; exact ⟨_, _, rfl, h1, h2⟩
section
variable {P : Program} {w : World} {K : PySem.W.Frag} {mg : Str → Option Value} {base : Heap}
abbrev nm_law_same : List Str := ["_law_found", "_law_due_here", "_law_one", "_law_other"]
theorem sc_law_same : FnScope nm_law_same ["_law_found", "_law_due_here"] (defScope s_law_same) := ⟨rfl, rfl, rfl, by decide +kernel, rfl, by decide +kernel, by decide +kernel⟩
def fSameA (ds : List PyData) (d : PyData) : Prop := ∃ x, ds = [x, x] ∧ atomD x = true ∧ d = .bool true
theorem ok_law_same {f : Addr} {fd : FuncData} (T : Txt mg) (D : Dfn K mg "_law_same" s_law_same ["_law_found", "_law_due_here"] f fd) : FnOk P w K mg base CX0 1 f fd ["_law_found", "_law_due_here"] (spD K fSameA) := by
  refine D.F.ok sc_law_same (fun vs H Q E h => ?_) (fun cdv A outer s H vs Q E hr h => ?_)
  · obtain ⟨S, B, ds, d, w, hd, ⟨x, rfl, _⟩, _⟩ := h
    exact DpAll.length hd
  · obtain ⟨S, B, ds, d, w, hd, ⟨x, rfl, hx, rfl⟩, q⟩ := h
    obtain ⟨v1, v2, rfl, h1, h2⟩ := two_args hd
    refine ⟨_, (pss_cons (ps_if (pt_val (pe_callB call_isiT (by rfl) T.m_isinstance (by decide +kernel) (pa_cons (pv 1) (pa_cons (pe_tup (pa_cons (pe_bltn (v := .ty "list") (by rfl) T.m_list (by decide +kernel) rfl) (pa_cons (pe_bltn (v := .ty "tuple") (by rfl) T.m_tuple (by decide +kernel) rfl) pa_nil))) pa_nil))))
        (pss_cons ps_never (pss_one ps_never))
        pss_nil)
      (pss_cons (ps_if (PW.pt (pw_or (pt_cmpR op_isN (pv 1) pe_non (nomark _)) (pw_or1 (pt_val (pe_callB call_isi (by rfl) T.m_isinstance (by decide +kernel) (pa_cons (pv 1) (pa_cons (pe_bltn (v := .ty "str") (by rfl) T.m_str (by decide +kernel) rfl) pa_nil)))))))
        (pss_one (ps_ret (pe_and (pe_cmpR op_eq (pv 0) (pv 1) (nomark _)) (pe_one (pe_cmpR op_eq (pe_callB call_isi (by rfl) T.m_isinstance (by decide +kernel) (pa_cons (pv 0) (pa_cons (pe_bltn (v := .ty "str") (by rfl) T.m_str (by decide +kernel) rfl) pa_nil))) (pe_callB call_isi (by rfl) T.m_isinstance (by decide +kernel) (pa_cons (pv 1) (pa_cons (pe_bltn (v := .ty "str") (by rfl) T.m_str (by decide +kernel) rfl) pa_nil))) (nomark _))))))
        pss_nil)
      (pss_cons (ps_if (pt_val (pe_callB call_isi (by rfl) T.m_isinstance (by decide +kernel) (pa_cons (pv 1) (pa_cons (pe_bltn (v := .ty "bool") (by rfl) T.m_bool (by decide +kernel) rfl) pa_nil))))
        (pss_one (ps_ret (pe_and (pe_callB call_isi (by rfl) T.m_isinstance (by decide +kernel) (pa_cons (pv 0) (pa_cons (pe_bltn (v := .ty "bool") (by rfl) T.m_bool (by decide +kernel) rfl) pa_nil))) (pe_one (pe_cmpR op_eq (pv 0) (pv 1) (nomark _))))))
        pss_nil)
      (pss_one (ps_ret (pe_and (pe_callB call_isi (by rfl) T.m_isinstance (by decide +kernel) (pa_cons (pv 0) (pa_cons (pe_bltn (v := .ty "int") (by rfl) T.m_int (by decide +kernel) rfl) pa_nil))) (pe_and (pe_not (pe_callB call_isi (by rfl) T.m_isinstance (by decide +kernel) (pa_cons (pv 0) (pa_cons (pe_bltn (v := .ty "bool") (by rfl) T.m_bool (by decide +kernel) rfl) pa_nil)))) (pe_one (pe_cmpR op_eq (pv 0) (pv 1) (nomark _)))))))))), ?_⟩
    have hlt := kit_list hx
    refine st_if w (eb_B (ev_isi2 (ev_var rfl h2) hlt.1 hlt.2)) (fun z => by cases z) fun _ B1 H1 e1 eB1 w1 => ?_
    replace h1 := Dp.mono eB1 h1
    replace h2 := Dp.mono eB1 h2
    have hs := kit_strbool hx
    refine st_if w1 (eb_or (eb_test (ev_isN (ev_var rfl h2) rfl)) fun _ => eb_B (ev_isi (ev_var rfl h2) hs.1)) (fun _ B2 H2 e2 eB2 w2 => ?_) fun hn B2 H2 e2 eB2 w2 => ?_
    · replace h1 := Dp.mono eB2 h1
      replace h2 := Dp.mono eB2 h2
      refine st_ret w2 (ev_is (ev_and (ev_eqA (ev_var rfl h1) (ev_var rfl h2) hx) fun _ => ev_eqB (ev_isi (ev_var rfl h1) hs.1) (ev_isi (ev_var rfl h2) hs.1)) (by rw [BEq.rfl]; rfl)) fun v B' H' e eB w' r => q v B' H' ((e1.trans e2).trans e) ((eB1.trans eB2).trans eB) w' r
    · replace h1 := Dp.mono eB2 h1
      replace h2 := Dp.mono eB2 h2
      refine st_if w2 (eb_B (ev_isi (ev_var rfl h2) hs.2)) (fun hb B3 H3 e3 eB3 w3 => ?_) fun hb B3 H3 e3 eB3 w3 => ?_
      · replace h1 := Dp.mono eB3 h1
        replace h2 := Dp.mono eB3 h2
        refine st_ret w3 (ev_is (ev_and (ev_isi (ev_var rfl h1) hs.2) fun _ => ev_eqA (ev_var rfl h1) (ev_var rfl h2) hx) (by rw [hb]; rfl)) fun v B' H' e eB w' r => q v B' H' (((e1.trans e2).trans e3).trans e) (((eB1.trans eB2).trans eB3).trans eB) w' r
      · replace h1 := Dp.mono eB3 h1
        replace h2 := Dp.mono eB3 h2
        have hi := kit_int hx hn hb
        refine st_ret w3 (ev_is (ev_and (ev_isi (ev_var rfl h1) hi) fun _ => ev_and (ev_not (ev_isi (ev_var rfl h1) hs.2)) fun _ => ev_eqA (ev_var rfl h1) (ev_var rfl h2) hx) (by rw [hb]; rfl)) fun v B' H' e eB w' r => q v B' H' (((e1.trans e2).trans e3).trans e) (((eB1.trans eB2).trans eB3).trans eB) w' r
end
end Pw

/-! ## K10E -/
namespace Pw
open PySem L2 Evl
section
variable {K : PySem.W.Frag} {σ : L2.St} {B H H' : Hp} {S : List Addr} {te ta tb tl tm : TE}
def rCntB (K : PySem.W.Frag) : V → List V → Hp → VK → Prop := fun x xs H Q => ∃ (p : Addr) (ns : List Bool) (k : Bool), x = .ref p ∧ xs = [.bl k] ∧ SqL K H p (ns.map V.bl) ∧ Q (.int (ns.count k : Nat)) H
theorem ev_cntB {bs : List Bool} {k : Bool} (ha : EvD K ta σ B (.list (bs.map .bool))) (hb : EvD K tb σ B (.bool k)) : EvD K (tBM K "list" (rCntB K) ta (tCons tb tNil)) σ B (.int (bs.count k : Nat)) :=
  evR_of (fun S H w Q q => ha.bind w fun x B1 H1 e1 eB1 w1 rx => by
    cases rx with
    | @lst a xs _ hs hd =>
    have e := DpAll.bools_eq hd
    subst e
    refine ⟨.inl ⟨rfl, _, ex_l w1.ex hs⟩, (hb.mono eB1).bind w1 fun y B2 H2 e2 eB2 w2 ry => ?_⟩
    cases ry
    exact ⟨a, bs, k, rfl, rfl, ex_l (eB2.trans w2.ex) hs, q _ B2 H2 (e1.trans e2) (eB1.trans eB2) w2 (.int _)⟩) stays_dp
def rRng1 : List V → Hp → VK → Prop := fun vs H Q => ∃ j, vs = [V.int j] ∧ ∀ p, H p = none → Q (.ref p) (upd H p (.rng 0 j))
def rListRng : List V → Hp → VK → Prop := fun vs H Q => ∃ (r : Addr) (a b : Int), vs = [V.ref r] ∧ H r = some (.rng a b) ∧ -(2 ^ 61) ≤ a ∧ a < 2 ^ 61 ∧ -(2 ^ 61) ≤ b ∧ b < 2 ^ 61 ∧ (b - a).toNat ≤ 100000 ∧
    ∀ p, H p = none → Q (.ref p) (upd H p (.lst ((List.range (b - a).toNat).map fun (i : Nat) => V.int (a + (i : Int)))))
theorem ev_listrange {j : Int} (h : EvD K ta σ B (.int j)) (hj : -100000 ≤ j ∧ j ≤ 100000) : EvD K (tCB rListRng (tCons (tCB rRng1 (tCons ta tNil)) tNil)) σ B (.list ((rngI 0 j.toNat).map .int)) :=
  evR_of (fun S H w Q q => h.bind w fun x B1 H1 e1 eB1 w1 rx => by
    cases rx
    refine ⟨j, rfl, fun p hp => ⟨p, 0, j, rfl, upd_same, by decide, by decide, by omega, by omega, by omega, fun l hl => ?_⟩⟩
    have w2 := w1.ext (Ex.new (o := .rng 0 j) hp)
    refine q (.ref l) _ _ (e1.trans ((Ex.new hp).trans (Ex.new hl))) (eB1.trans (w2.newE (o := .lst ((List.range (j - 0).toNat).map fun (i : Nat) => V.int (0 + (i : Int)))) hl)) (w2.new hl) (.lst (sq_of upd_same) ?_)
    have e : (List.range (j - 0).toNat).map (fun (i : Nat) => V.int (0 + (i : Int))) = (rngI 0 j.toNat).map V.int := by
      unfold rngI
      rw [List.map_map, Int.sub_zero]
      rfl
    rw [e]
    exact DpAll.ints) stays_dp
end
section
variable {P : Program} {w : World} {K : PySem.W.Frag} {mg : Str → Option Value} {base : Heap}
abbrev nm_law_some : List Str := ["_law_box_here", "_law_many_here", "_law_way", "_law_place"]
theorem sc_law_some : FnScope nm_law_some ["_law_box_here", "_law_many_here"] (defScope s_law_some) := ⟨rfl, rfl, rfl, by decide +kernel, rfl, by decide +kernel, by decide +kernel⟩
def spSome (K : PySem.W.Frag) : Sp := fun vs H Q _ => ∃ (S : List Addr) (b : Addr) (n : Int) (c : Nat), vs = [.ref b, .int n] ∧ b ∈ S ∧ (∀ s ∈ S, ∃ o, H s = some o) ∧ BoxAt H b c ∧ c + 200 < 2 ^ 40 ∧ 1 ≤ n ∧ n ≤ 100 ∧
  ∀ v H' (side : List Int), side.length ≤ 100 → Dp K (mi H' S) v (.list (side.map .int)) → Bx b (c + 200) H H' → Q v H'
theorem ok_law_some {f f1 : Addr} {fd fd1 : FuncData} (T : Txt mg) (D_law_take : Dfn K mg "_law_take" s_law_take ["_law_box_here", "_law_many_here"] f1 fd1) (D : Dfn K mg "_law_some" s_law_some ["_law_box_here", "_law_many_here"] f fd) : FnOk P w K mg base CX0 2 f fd ["_law_box_here", "_law_many_here"] (spSome K) := by
  have G_law_take : FnOk P w K mg base CX0 1 f1 fd1 ["_law_box_here", "_law_many_here"] spTake := ok_law_take D_law_take
  refine D.F.ok sc_law_some (fun vs H Q E h => ?_) (fun cdv A outer s H vs Q E hr h => ?_)
  · obtain ⟨S, b, n, c, rfl, _⟩ := h
    rfl
  · obtain ⟨S, b, n, c, rfl, hbS, hSd, hb, hc, hn, hn2, q⟩ := h
    have hr_law_take := hr
    refine ⟨_, (pss_cons (ps_set (i := 2) sc_law_some.nd rfl (Or.inr rfl) (pe_call G_law_take hr_law_take (by rfl) D_law_take.g D_law_take.F.kp D_law_take.b .nil pass0 (pa_cons (pv 0) (pa_cons pe_int pa_nil))))
      (pss_cons (ps_if (pt_cmpR op_lt (pv 2) pe_int (nomark _))
        (pss_one (ps_ret (pe_callTy (call_list_rng rfl) (by rfl) T.m_list (by decide +kernel) (pa_cons (pe_callTy cr_range1 (by rfl) T.m_range (by decide +kernel) (pa_cons (pe_op op_mul (pv 1) (pv 2)) pa_nil)) pa_nil))))
        pss_nil)
      (pss_one (ps_ret (pe_lc (own := [("_law_place", 3)]) (g := (gName 3)) (by rfl) sc_law_some.nd (pi_range1 (by rfl) T.m_range (pa_cons (pv 1) pa_nil)) (blkOk_by (own := [("_law_place", 3)]) (N := nm_law_some) (sc := defScope s_law_some) (by decide +kernel)) (fun _ _ _ _ _ => (pg_name (i := 3) sc_law_some.nd rfl (Or.inl rfl))) (fun _ _ _ _ _ => (pts_one (pt_cmpR op_eq (pe_call G_law_take hr_law_take (by rfl) D_law_take.g D_law_take.F.kp D_law_take.b .nil pass0 (pa_cons (pv 0) (pa_cons (pe_ix (r := rIxL K) ix_list (pe_lst (pa_cons pe_int (pa_cons pe_int (pa_cons pe_int (pa_cons pe_int (pa_cons pe_int (pa_cons pe_int pa_nil))))))) (pe_op op_sub (pv 2) pe_int) (fun _ _ => rfl)) pa_nil))) pe_int (nomark _)))) (fun _ _ _ _ _ => (pv 3))))))), ?_⟩
    have w0 : Wd S (mi H S) H := ⟨mi_ex, fun s m => mi_no m, hSd⟩
    refine (ex_take (K := K) rfl ev_int (by decide) (by decide)).get w0 hbS hb (by unfold lid; omega) fun way B1 H1 hway x1 eB1 w1 hB1 => ?_
    refine st_if w1 (eb_test (K := K) (ev_cmp (ev_var rfl (.int way)) ev_int)) (fun hlt B2 H2 e2 eB2 w2 => ?_) fun hlt B2 H2 e2 eB2 w2 => ?_
    · have hlt : way < 2 := of_decide_eq_true hlt
      have hmul : 0 ≤ n * way ∧ n * way ≤ 100 := by
        have : way = 0 ∨ way = 1 := by omega
        rcases this with rfl | rfl <;> omega
      refine st_ret w2 (ev_listrange (ev_mul (ev_var rfl (.int n)) (ev_var rfl (.int way)) (.inr ⟨by omega, by omega⟩)) (by omega)) fun v B' H' e eB w' r => q v H' (rngI 0 (n * way).toNat) (by rw [rngI_len]; omega) (Dp.mono (ex_mi w'.ex w'.no) r) ⟨x1.trans (Xs.of (e2.trans e)), ((hB1.ex e2).ex e).mono (by omega)⟩
    · have hlt : ¬ way < 2 := of_decide_eq_false hlt
      have hB2 := hB1.ex e2
      have hix : ∃ m : Int, atI [PyData.int 2, .int 2, .int 3, .int 5, .int 8, .int 2] (way - 2) = some (.int m) ∧ 1 ≤ m ∧ m < 2 ^ 100 := by
        have : way = 2 ∨ way = 3 ∨ way = 4 ∨ way = 5 ∨ way = 6 ∨ way = 7 := by omega
        rcases this with rfl | rfl | rfl | rfl | rfl | rfl <;> exact ⟨_, rfl, by decide, by decide⟩
      obtain ⟨m, hm1, hm2, hm3⟩ := hix
      refine (ex_lc (K := K) (b := b) (k := 1) (rngI 0 n.toNat) .int PyData.int (fun i (ys : List Int) => ys.length ≤ i) (wk_rng1 (ea_cons (ev_var rfl (.int n)) ea_nil) (by omega)) (by rw [rngI_len]; omega) (Nat.le_refl _) (fun i ys h => h) fun i a ys ha hP x S' B' H' c' eB' w' hb' hB' hl' hx Qy Qn hy hn => ⟨rfl, ?turn⟩).bind w2 hbS hB2 (by rw [rngI_len]; unfold lid; omega) fun v B3 H3 x3 eB3 w3 hB3 ⟨ys, hys, r⟩ => ?rest
      case turn =>
        refine (ex_take (K := K) rfl (ev_ixL (ev_lst (ea_cons ev_int (ea_cons ev_int (ea_cons ev_int (ea_cons ev_int (ea_cons ev_int (ea_cons ev_int ea_nil)))))) (by decide)) (ev_sub (ev_var rfl (.int way)) ev_int) hm1) hm2 hm3).get w' hb' hB' hl' fun t B4 H4 ht x4 eB4 w4 hB4 => ⟨rfl, _, rfl, ite2 (fun _ => ?_) fun _ => ?_⟩
        · cases hx
          exact ⟨_, rfl, hy a _ B4 H4 x4 hB4 w4 eB4 (.int a) (by rw [List.length_append]; exact Nat.succ_le_succ hP)⟩
        · exact hn (Nat.le_succ_of_le hP) B4 H4 x4 hB4 w4 eB4
      case rest =>
        rw [rngI_len] at hys hB3
        exact q v H3 ys (by omega) (Dp.mono (ex_mi w3.ex w3.no) r) ⟨x1.trans ((Xs.of e2).trans x3), hB3.mono (by omega)⟩
end
end Pw

/-! ## K10F -/
namespace Pw
open PySem L2 Evl
/-! ### the sum, tie by tie -/
def dueOf (side : List Int) (t : Tie) : Int := t.2.2 * (if decide ((([decide (t.1 ∈ side), decide (t.2.1 ∈ side)] : List Bool).count true : Nat) = (1 : Int)) = true then 1 else 0)
theorem dueOf_eq (side : List Int) (t : Tie) : dueOf side t = if (decide (t.1 ∈ side) != decide (t.2.1 ∈ side)) = true then t.2.2 else 0 := by
  unfold dueOf
  cases decide (t.1 ∈ side) <;> cases decide (t.2.1 ∈ side) <;> simp
theorem due_sum (side : List Int) : ∀ ts : List Tie, (ts.map (dueOf side)).sum = sideW ts side
  | [] => rfl
  | t :: r => by
    have ih := due_sum side r
    unfold sideW at ih ⊢
    rw [List.map_cons, List.sum_cons, ih, dueOf_eq, List.filter_cons]
    by_cases h : (decide (t.1 ∈ side) != decide (t.2.1 ∈ side)) = true
    · rw [if_pos h, if_pos h, List.map_cons, List.sum_cons]
    · rw [if_neg h, if_neg h, Int.zero_add]
theorem sum_take1 {l : List Int} {i : Nat} {a : Int} (h : l[i]? = some a) : (l.take (i + 1)).sum = (l.take i).sum + a := by
  rw [List.take_add_one, h, List.sum_append]
  simp
/-- the side, or all other places -/
theorem side_others {n : Int} {ts : List Tie} (hw : WebOk n ts) (side : List Int) : sideW ts ((rngI 0 n.toNat).filter fun p => !decide (p ∈ side)) = sideW ts side := by
  unfold sideW
  congr 2
  refine List.filter_congr fun t ht => ?_
  obtain ⟨h1, h2, h3, _⟩ := hw.tie t ht
  have e : ∀ x : Int, 0 ≤ x → x < n → decide (x ∈ (rngI 0 n.toNat).filter fun p => !decide (p ∈ side)) = !decide (x ∈ side) := fun x hx hn => by
    have hm : x ∈ rngI 0 n.toNat := rngI_mem.mpr ⟨hx, by omega⟩
    by_cases h : x ∈ side <;> simp [h, hm]
  rw [e _ h1 (by omega), e _ (by omega) h3]
  cases decide (t.1 ∈ side) <;> cases decide (t.2.1 ∈ side) <;> rfl
theorem tie_mod (p q p' q' : Bool) (x : Int) (h : 1 ≤ x) :
    (if ((p && p') != (q && q')) = true then x else 0) + (if ((p || p') != (q || q')) = true then x else 0) ≤ (if (p != q) = true then x else 0) + (if (p' != q') = true then x else 0) := by
  cases p <;> cases q <;> cases p' <;> cases q' <;> simp <;> omega
theorem sideW_sum (ts : List Tie) (side : List Int) : sideW ts side = (ts.map fun t => if (decide (t.1 ∈ side) != decide (t.2.1 ∈ side)) = true then t.2.2 else 0).sum := by
  rw [← due_sum]
  congr 1
  exact List.map_congr_left fun t _ => dueOf_eq side t
theorem sum_le {f g h k : Tie → Int} : ∀ {ts : List Tie}, (∀ t ∈ ts, f t + g t ≤ h t + k t) → (ts.map f).sum + (ts.map g).sum ≤ (ts.map h).sum + (ts.map k).sum
  | [], _ => by simp
  | t :: r, hh => by
    have ih := sum_le (ts := r) fun s hs => hh s (List.mem_cons_of_mem _ hs)
    have h1 := hh t List.mem_cons_self
    simp only [List.map_cons, List.sum_cons]
    omega
/-- both and either weigh no more than the one and the other -/
theorem side_mod {n : Int} {ts : List Tie} (hw : WebOk n ts) (one other : List Int) :
    sideW ts (one.filter fun p => decide (p ∈ other)) + sideW ts ((rngI 0 n.toNat).filter fun p => decide (p ∈ one) || decide (p ∈ other)) ≤ sideW ts one + sideW ts other := by
  rw [sideW_sum, sideW_sum, sideW_sum, sideW_sum]
  refine sum_le fun t ht => ?_
  obtain ⟨h1, h2, h3, h4, _⟩ := hw.tie t ht
  have e1 : ∀ x : Int, decide (x ∈ one.filter fun p => decide (p ∈ other)) = (decide (x ∈ one) && decide (x ∈ other)) := fun x => by
    by_cases a : x ∈ one <;> by_cases b : x ∈ other <;> simp [a, b]
  have e2 : ∀ x : Int, 0 ≤ x → x < n → decide (x ∈ (rngI 0 n.toNat).filter fun p => decide (p ∈ one) || decide (p ∈ other)) = (decide (x ∈ one) || decide (x ∈ other)) := fun x hx hn => by
    have hm : x ∈ rngI 0 n.toNat := rngI_mem.mpr ⟨hx, by omega⟩
    by_cases a : x ∈ one <;> by_cases b : x ∈ other <;> simp [a, b, hm]
  rw [e1, e1, e2 _ h1 (by omega), e2 _ (by omega) h3]
  exact tie_mod _ _ _ _ _ h4
theorem shaped_ints (ns : List Int) : SeqAt.shaped (.list (ns.map .int)) = true := PySem.W.ke_shaped_ints ns
theorem eqv_refl_ints (ns : List Int) : PyData.eqv (.list (ns.map .int)) (.list (ns.map .int)) = true := SeqAt.eqv_refl _ (SeqAt.canLay_of_shaped (shaped_ints ns))
section
variable {P : Program} {w : World} {K : PySem.W.Frag} {mg : Str → Option Value} {base : Heap}
abbrev nm_law_due : List Str := ["_law_web_here", "_law_side", "_law_due_here", "_law_a", "_law_b", "_law_weight_here"]
theorem sc_law_due : FnScope nm_law_due ["_law_web_here", "_law_side"] (defScope s_law_due) := ⟨rfl, rfl, rfl, by decide +kernel, rfl, by decide +kernel, by decide +kernel⟩
def fDue (ds : List PyData) (d : PyData) : Prop := ∃ (n : Int) (ts : List Tie) (side : List Int), ds = [webD n ts, .list (side.map .int)] ∧ WebOk n ts ∧ d = .int (sideW ts side)
theorem ok_law_due {f : Addr} {fd : FuncData} (T : Txt mg) (D : Dfn K mg "_law_due" s_law_due ["_law_web_here", "_law_side"] f fd) : FnOk P w K mg base CX0 1 f fd ["_law_web_here", "_law_side"] (spD K fDue) := by
  refine D.F.ok sc_law_due (fun vs H Q E h => ?_) (fun cdv A outer s H vs Q E hr h => ?_)
  · obtain ⟨S, B, ds, d, w, hd, ⟨n, ts, side, rfl, _⟩, _⟩ := h
    exact DpAll.length hd
  · obtain ⟨S, B, ds, d, w, hd, ⟨n, ts, side, rfl, hw, rfl⟩, q⟩ := h
    obtain ⟨v1, v2, rfl, h1, h2⟩ := two_args hd
    refine ⟨_, (pss_cons (ps_set (i := 2) sc_law_due.nd rfl (Or.inl rfl) pe_int)
      (pss_cons (ps_for PassesOwn.never rfl (pi_tup (pe_ix ix_seq (pv 0) pe_int (fun _ _ => rfl))) (pg_tup (by rfl) (pgs_cons (pg_name (i := 3) sc_law_due.nd rfl (Or.inl rfl)) (pgs_cons (pg_name (i := 4) sc_law_due.nd rfl (Or.inl rfl)) (pgs_cons (pg_name (i := 5) sc_law_due.nd rfl (Or.inl rfl)) pgs_nil))))
        (pss_one (ps_set (i := 2) sc_law_due.nd rfl (Or.inl rfl) (pe_op op_add (pv 2) (pe_op op_mul (pv 5) (pe_callTy call_int1 (by rfl) T.m_int (by decide +kernel) (pa_cons (pe_cmpR op_eq (pe_bm PySem.F.plainAttrs_list PySem.F.slot_list_count PySem.F.type_list_count mt_lcountB (pe_lst (pa_cons (pe_cmpR op_in_seq (pv 3) (pv 1) (by rfl)) (pa_cons (pe_cmpR op_in_seq (pv 4) (pv 1) (by rfl)) pa_nil))) (pa_cons pe_bl pa_nil)) pe_int (nomark _)) pa_nil)))))))
      (pss_one (ps_ret (pv 2))))), ?_⟩
    refine st_for (K := K) ts tieD w (wk_tup (ev_ix (t := true) (ev_var (v := v1) rfl h1) ev_int rfl)) fun B1 H1 e1 eB1 w1 => ⟨fun i σ' H' => Ex H1 H' ∧ ∃ x3 x4 x5, σ' = [some v1, some v2, some (.int ((ts.map (dueOf side)).take i).sum), x3, x4, x5], ⟨Ex.refl _, none, none, none, rfl⟩, ?_, ?_⟩
    · rintro i t σ' H' ht ⟨eH, x3, x4, x5, rfl⟩
      refine ⟨S, B1, Ex.refl _, w1.ext eH, fun x B2 H2 e2 eB2 w2 hx => ?_⟩
      cases hx with
      | tup hs hd =>
      cases hd with
      | cons q1 r =>
      cases r with
      | cons q2 r =>
      cases r with
      | cons q3 r =>
      cases r
      refine ⟨_, _, rfl, ex_t w2.ex hs, rfl, _, _, rfl, _, _, rfl, _, _, rfl, rfl, ?_⟩
      replace h2 := Dp.mono (eB1.trans eB2) h2
      refine st_asg w2 (ev_is (d' := .int (((ts.map (dueOf side)).take (i + 1)).sum)) (ev_add (ev_var rfl (.int _)) (ev_mul (ev_var rfl q3) (ev_intB (ev_eqI (ev_cntB (bs := [decide (t.1 ∈ side), decide (t.2.1 ∈ side)]) (k := true) (ev_lst (ea_cons (ev_in (neg := false) (t := false) (ev_var rfl q1) (ev_var rfl h2)) (ea_cons (ev_in (neg := false) (t := false) (ev_var rfl q2) (ev_var rfl h2)) ea_nil)) (by show 2 ≤ 100000; decide)) ev_bl) ev_int)) (.inr (b01 _)))) ?_) fun v B3 H3 e3 eB3 w3 hv => ?_
      · rw [sum_take1 (a := dueOf side t) (by rw [List.getElem?_map, ht]; rfl)]
        rfl
      · cases hv
        exact ⟨eH.trans (e2.trans e3), _, _, _, rfl⟩
    · rintro σ' H' ⟨eH, x3, x4, x5, rfl⟩
      refine ⟨⟨S, B1, Ex.refl _, w1.ext eH⟩, st_ret (w1.ext eH) (ev_is (d' := .int (sideW ts side)) (ev_var (K := K) rfl (.int _)) (by rw [show ts.length = (ts.map (dueOf side)).length by rw [List.length_map], List.take_length, due_sum])) fun v B' H' e eB w' r => q v B' H' ((e1.trans eH).trans e) (eB1.trans eB) w' r⟩
abbrev nm_law_right : List Str := ["_law_web_here", "_law_side", "_law_handed", "_law_others", "_law_place"]
theorem sc_law_right : FnScope nm_law_right ["_law_web_here", "_law_side"] (defScope s_law_right) := ⟨rfl, rfl, rfl, by decide +kernel, rfl, by decide +kernel, by decide +kernel⟩
def fRight (ds : List PyData) (d : PyData) : Prop := ∃ (n : Int) (ts : List Tie) (side : List Int), ds = [webD n ts, .list (side.map .int)] ∧ WebOk n ts ∧ n ≤ 100 ∧ side.length ≤ 100 ∧ d = .bool true
theorem ok_law_right {f f1 f2 f3 : Addr} {fd fd1 fd2 fd3 : FuncData} (T : Txt mg) (D_law_same : Dfn K mg "_law_same" s_law_same ["_law_found", "_law_due_here"] f1 fd1) (D_law_due : Dfn K mg "_law_due" s_law_due ["_law_web_here", "_law_side"] f2 fd2) (D_side_weight : Dfn K mg "side_weight" s_side_weight ["web", "side"] f3 fd3)
    (D : Dfn K mg "_law_right" s_law_right ["_law_web_here", "_law_side"] f fd) : FnOk P w K mg base CX0 2 f fd ["_law_web_here", "_law_side"] (spD K fRight) := by
  have G_law_same : FnOk P w K mg base CX0 1 f1 fd1 ["_law_found", "_law_due_here"] (spD K fSameA) := ok_law_same T D_law_same
  have G_law_due : FnOk P w K mg base CX0 1 f2 fd2 ["_law_web_here", "_law_side"] (spD K fDue) := ok_law_due T D_law_due
  have G_side_weight : FnOk P w K mg base CX0 1 f3 fd3 ["web", "side"] (spD K fSide) := ok_side_weight T D_side_weight
  refine D.F.ok sc_law_right (fun vs H Q E h => ?_) (fun cdv A outer s H vs Q E hr h => ?_)
  · obtain ⟨S, B, ds, d, w, hd, ⟨n, ts, side, rfl, _⟩, _⟩ := h
    exact DpAll.length hd
  · obtain ⟨S, B, ds, d, w, hd, ⟨n, ts, side, rfl, hw, hn, hl, rfl⟩, q⟩ := h
    obtain ⟨v1, v2, rfl, h1, h2⟩ := two_args hd
    have hr_law_same := hr
    have hr_law_due := hr
    have hr_side_weight := hr
    have hn1 := hw.pos
    refine ⟨_, (pss_cons (ps_set (i := 2) sc_law_right.nd rfl (Or.inl rfl) (pe_callTy call_list_of (by rfl) T.m_list (by decide +kernel) (pa_cons (pv 1) pa_nil)))
      (pss_cons (ps_setLc (i := 3) (own := [("_law_place", 4)]) (g := (gName 4)) (by rfl) sc_law_right.nd rfl rfl (sw_true rfl rfl rfl (by decide +kernel)) (pi_range1 (by rfl) T.m_range (pa_cons (pe_ix ix_seq (pv 0) pe_int (fun _ _ => rfl)) pa_nil)) (blkOk_by (own := [("_law_place", 4)]) (N := nm_law_right) (sc := defScope s_law_right) (by decide +kernel)) (fun _ _ _ _ _ => (pg_name (i := 4) sc_law_right.nd rfl (Or.inl rfl))) (fun _ _ _ _ _ => (pts_one (pt_cmpR (r := rIn K true) op_notIn_seq (pv 4) (pv 1) (by rfl)))) (fun _ _ _ _ _ => (pv 4)))
      (pss_cons (ps_if (PW.pt (pw_or (pt_not (pt_val (pe_call G_law_same hr_law_same (by rfl) D_law_same.g D_law_same.F.kp D_law_same.b .nil pass0 (pa_cons (pe_call G_side_weight hr_side_weight (by rfl) D_side_weight.g D_side_weight.F.kp D_side_weight.b .nil pass0 (pa_cons (pv 0) (pa_cons (pv 2) pa_nil))) (pa_cons (pe_call G_law_due hr_law_due (by rfl) D_law_due.g D_law_due.F.kp D_law_due.b .nil pass0 (pa_cons (pv 0) (pa_cons (pv 1) pa_nil))) pa_nil))))) (pw_or1 (pt_cmpR (op_neD hr.units) (pv 2) (pv 1) (nomark _)))))
        (pss_one (ps_ret pe_bl))
        pss_nil)
      (pss_one (ps_ret (pe_cmpR op_eq (pe_call G_side_weight hr_side_weight (by rfl) D_side_weight.g D_side_weight.F.kp D_side_weight.b .nil pass0 (pa_cons (pv 0) (pa_cons (pe_callTy call_tuple_of (by rfl) T.m_tuple (by decide +kernel) (pa_cons (pv 3) pa_nil)) pa_nil))) (pe_call G_law_due hr_law_due (by rfl) D_law_due.g D_law_due.F.kp D_law_due.b .nil pass0 (pa_cons (pv 0) (pa_cons (pv 1) pa_nil))) (nomark _))))))), ?_⟩
    refine st_asg w (ev_list (t := false) (ev_var (v := v2) rfl h2)) fun v3 B1 H1 e1 eB1 w1 h3 => ?_
    replace h1 := Dp.mono eB1 h1
    replace h2 := Dp.mono eB1 h2
    refine st_asg w1 (ev_lc (rngI 0 n.toNat) .int (fun p => !decide (p ∈ side)) PyData.int (wk_rng1 (ea_cons (ev_ix (t := true) (ev_var (v := v1) rfl h1) ev_int rfl) ea_nil) (by omega)) (by rw [rngI_len]; omega) fun p hp => turn_name (fun _ => rfl) (fun x B' e hx => eb_test (ev_in (neg := true) (t := false) (ev_var rfl hx) (ev_var rfl (Dp.mono e h2)))) fun x B' e hx _ => ev_var rfl hx) fun v4 B2 H2 e2 eB2 w2 h4 => ?_
    replace h1 := Dp.mono eB2 h1
    replace h2 := Dp.mono eB2 h2
    replace h3 := Dp.mono eB2 h3
    refine st_if w2 (eb_is (c := false) (eb_or (eb_not (eb_B (ev_call (f := fSameA) (d := .bool true) (ea_cons (ev_call (f := fSide) (d := .int (sideW ts side)) (ea_cons (ev_var rfl h1) (ea_cons (ev_var rfl h3) ea_nil)) ⟨n, ts, false, side, rfl, hw, by omega, rfl⟩) (ea_cons (ev_call (f := fDue) (d := .int (sideW ts side)) (ea_cons (ev_var rfl h1) (ea_cons (ev_var rfl h2) ea_nil)) ⟨n, ts, side, rfl, hw, rfl⟩) ea_nil)) ⟨_, rfl, rfl, rfl⟩))) fun _ => eb_test (ev_neD (ev_var rfl h3) (ev_var rfl h2) (shaped_ints side) (shaped_ints side))) (by rw [eqv_refl_ints]; rfl)) (fun z => by cases z) fun _ B3 H3 e3 eB3 w3 => ?_
    replace h1 := Dp.mono eB3 h1
    replace h2 := Dp.mono eB3 h2
    replace h4 := Dp.mono eB3 h4
    refine st_ret w3 (ev_is (d' := .bool true) (ev_eqI (ev_call (f := fSide) (d := .int (sideW ts side)) (ea_cons (ev_var rfl h1) (ea_cons (ev_tuple (t := false) (ev_var (v := v4) rfl h4)) ea_nil)) ⟨n, ts, true, _, rfl, hw, ?_, by rw [side_others hw]⟩) (ev_call (f := fDue) (d := .int (sideW ts side)) (ea_cons (ev_var rfl h1) (ea_cons (ev_var rfl h2) ea_nil)) ⟨n, ts, side, rfl, hw, rfl⟩)) (by simp)) fun v B' H' e eB w' r => q v B' H' ((e1.trans (e2.trans e3)).trans e) ((eB1.trans (eB2.trans eB3)).trans eB) w' r
    refine Nat.le_trans (List.length_filter_le _ _) ?_
    rw [rngI_len]
    omega
end
end Pw

/-! ## K10G -/
namespace Pw
open PySem L2 Evl
section
variable {P : Program} {w : World} {K : PySem.W.Frag} {mg : Str → Option Value} {base : Heap}
theorem Wd.ownX {S : List Addr} {B H H' : Hp} {b : Addr} (w : Wd S B H) (h : H b = none) (e : Ex H H') (d : ∃ o, H' b = some o) : Wd (b :: S) B H' := by
  refine ⟨w.ex.trans e, fun s m => ?_, fun s m => ?_⟩
  · rcases List.mem_cons.mp m with rfl | m
    · exact w.fresh h
    · exact w.no s m
  · rcases List.mem_cons.mp m with rfl | m
    · exact d
    · exact (w.ext e).at_ s m
theorem Wd.bx {S : List Addr} {B H H' : Hp} {b : Addr} {c : Nat} (w : Wd S B H) (hb : b ∈ S) (x : Bx b c H H') : Wd S (mi H' S) H' ∧ Ex B (mi H' S) :=
  ⟨⟨mi_ex, fun s m => mi_no m, x.def w.at_⟩, w.xsE hb x.x⟩
abbrev nm_law : List Str := ["_law_script", "_law_k", "_law_box_here", "_law_web_here", "_law_one", "_law_other", "_law_both", "_law_either", "_law_side", "_law_place"]
theorem sc_law : FnScope nm_law ["_law_script"] (defScope s_law) := ⟨rfl, rfl, rfl, by decide +kernel, rfl, by decide +kernel, by decide +kernel⟩
def spLaw (K : PySem.W.Frag) : Sp := fun vs H Q _ => ∃ (a : Addr) (ns : List Int), vs = [.ref a] ∧ SqL K H a (ns.map V.int) ∧ ns.length ≤ 63 ∧ ∀ H', Q (.bl true) H'
theorem ok_law {f f1 f2 f3 f4 f5 f6 f7 f8 f9 f10 : Addr} {fd fd1 fd2 fd3 fd4 fd5 fd6 fd7 fd8 fd9 fd10 : FuncData} (T : Txt mg)
    (D_law_cell_at : Dfn K mg "_law_cell_at" s_law_cell_at ["_law_script", "_law_k"] f1 fd1)
    (D_law_box : Dfn K mg "_law_box" s_law_box ["_law_script", "_law_k"] f2 fd2)
    (D_law_take : Dfn K mg "_law_take" s_law_take ["_law_box_here", "_law_many_here"] f3 fd3)
    (D_law_many : Dfn K mg "_law_many" s_law_many ["_law_box_here", "_law_least", "_law_few", "_law_most"] f4 fd4)
    (D_law_weight : Dfn K mg "_law_weight" s_law_weight ["_law_box_here", "_law_heavy"] f5 fd5)
    (D_law_web : Dfn K mg "_law_web" s_law_web psWeb f6 fd6)
    (D_law_same : Dfn K mg "_law_same" s_law_same ["_law_found", "_law_due_here"] f7 fd7)
    (D_law_some : Dfn K mg "_law_some" s_law_some ["_law_box_here", "_law_many_here"] f8 fd8)
    (D_law_due : Dfn K mg "_law_due" s_law_due ["_law_web_here", "_law_side"] f9 fd9)
    (D_law_right : Dfn K mg "_law_right" s_law_right ["_law_web_here", "_law_side"] f10 fd10)
    {f11 : Addr} {fd11 : FuncData} (D_side_weight : Dfn K mg "side_weight" s_side_weight ["web", "side"] f11 fd11)
    (D : Dfn K mg "law" s_law ["_law_script"] f fd) : FnOk P w K mg base CX0 4 f fd ["_law_script"] (spLaw K) := by
  have G_law_box : FnOk P w K mg base CX0 2 f2 fd2 ["_law_script", "_law_k"] (spBox K) := ok_law_box T D_law_cell_at D_law_box
  have G_law_many : FnOk P w K mg base CX0 2 f4 fd4 ["_law_box_here", "_law_least", "_law_few", "_law_most"] spMany := ok_law_many D_law_take D_law_many
  have G_law_web : FnOk P w K mg base CX0 3 f6 fd6 psWeb (spWeb K) := ok_law_web T D_law_take D_law_weight D_law_web
  have G_law_some : FnOk P w K mg base CX0 2 f8 fd8 ["_law_box_here", "_law_many_here"] (spSome K) := ok_law_some T D_law_take D_law_some
  have G_law_right : FnOk P w K mg base CX0 2 f10 fd10 ["_law_web_here", "_law_side"] (spD K fRight) := ok_law_right T D_law_same D_law_due D_side_weight D_law_right
  have G_side_weight : FnOk P w K mg base CX0 1 f11 fd11 ["web", "side"] (spD K fSide) := ok_side_weight T D_side_weight
  refine D.F.ok sc_law (fun vs H Q E h => ?_) (fun cdv A outer s H vs Q E hr h => ?_)
  · obtain ⟨a, ns, rfl, _⟩ := h
    rfl
  · obtain ⟨a, ns, rfl, hS, hlen, q⟩ := h
    have hr_law_web := hr
    have hr_law_box := hr.mono (show 2 ≤ 3 by decide)
    have hr_law_many := hr.mono (show 2 ≤ 3 by decide)
    have hr_law_some := hr.mono (show 2 ≤ 3 by decide)
    have hr_law_right := hr.mono (show 2 ≤ 3 by decide)
    have hr_side_weight := hr.mono (show 1 ≤ 3 by decide)
    refine ⟨_, (pss_cons (ps_for PassesOwn.never rfl (pi_range1 (by rfl) T.m_range (pa_cons (pe_callB (call_max2 rfl) (by rfl) T.m_max (by decide +kernel) (pa_cons pe_int (pa_cons (pe_callB (call_min2 rfl) (by rfl) T.m_min (by decide +kernel) (pa_cons (pe_callB call_len_seq (by rfl) T.m_len (by decide +kernel) (pa_cons (pv 0) pa_nil)) (pa_cons pe_int pa_nil))) pa_nil))) pa_nil)) (pg_name (i := 1) sc_law.nd rfl (Or.inl rfl))
        (pss_cons (ps_set (i := 2) sc_law.nd rfl (Or.inl rfl) (pe_call G_law_box hr_law_box (by rfl) D_law_box.g D_law_box.F.kp D_law_box.b .nil pass0 (pa_cons (pv 0) (pa_cons (pv 1) pa_nil))))
        (pss_cons (ps_set (i := 3) sc_law.nd rfl (Or.inl rfl) (pe_call G_law_web hr_law_web (by rfl) D_law_web.g D_law_web.F.kp D_law_web.b .nil pass0 (pa_cons (pv 2) (pa_cons (pe_call G_law_many hr_law_many (by rfl) D_law_many.g D_law_many.F.kp D_law_many.b .nil pass0 (pa_cons (pv 2) (pa_cons pe_int (pa_cons pe_int (pa_cons pe_int pa_nil))))) pa_nil))))
        (pss_cons (ps_asg (pe_tup (pa_cons (pe_call G_law_some hr_law_some (by rfl) D_law_some.g D_law_some.F.kp D_law_some.b .nil pass0 (pa_cons (pv 2) (pa_cons (pe_ix ix_seq (pv 3) pe_int (fun _ _ => rfl)) pa_nil))) (pa_cons (pe_call G_law_some hr_law_some (by rfl) D_law_some.g D_law_some.F.kp D_law_some.b .nil pass0 (pa_cons (pv 2) (pa_cons (pe_ix ix_seq (pv 3) pe_int (fun _ _ => rfl)) pa_nil))) pa_nil))) (pg_tup (by rfl) (pgs_cons (pg_name (i := 4) sc_law.nd rfl (Or.inr rfl)) (pgs_cons (pg_name (i := 5) sc_law.nd rfl (Or.inr rfl)) pgs_nil))))
        (pss_cons (ps_setLc (i := 6) (own := [("_law_place", 9)]) (g := (gName 9)) (by rfl) sc_law.nd rfl rfl (sw_true rfl rfl rfl (by decide +kernel)) (pi_list (pv 4)) (blkOk_by (own := [("_law_place", 9)]) (N := nm_law) (sc := defScope s_law) (by decide +kernel)) (fun _ _ _ _ _ => (pg_name (i := 9) sc_law.nd rfl (Or.inl rfl))) (fun _ _ _ _ _ => (pts_one (pt_cmpR (r := rIn K false) op_in_seq (pv 9) (pv 5) (by rfl)))) (fun _ _ _ _ _ => (pv 9)))
        (pss_cons (ps_setLc (i := 7) (own := [("_law_place", 9)]) (g := (gName 9)) (by rfl) sc_law.nd rfl rfl (sw_true rfl rfl rfl (by decide +kernel)) (pi_range1 (by rfl) T.m_range (pa_cons (pe_ix ix_seq (pv 3) pe_int (fun _ _ => rfl)) pa_nil)) (blkOk_by (own := [("_law_place", 9)]) (N := nm_law) (sc := defScope s_law) (by decide +kernel)) (fun _ _ _ _ _ => (pg_name (i := 9) sc_law.nd rfl (Or.inl rfl))) (fun _ _ _ _ _ => (pts_one (PW.pt (pw_or (pt_cmpR (r := rIn K false) op_in_seq (pv 9) (pv 4) (by rfl)) (pw_or1 (pt_cmpR (r := rIn K false) op_in_seq (pv 9) (pv 5) (by rfl))))))) (fun _ _ _ _ _ => (pv 9)))
        (pss_cons (ps_for PassesOwn.never rfl (pi_tup (pe_tup (pa_cons (pv 4) (pa_cons (pv 5) (pa_cons (pv 6) (pa_cons (pv 7) (pa_cons (pe_lst pa_nil) (pa_cons (pe_callTy (call_list_rng rfl) (by rfl) T.m_list (by decide +kernel) (pa_cons (pe_callTy cr_range1 (by rfl) T.m_range (by decide +kernel) (pa_cons (pe_ix ix_seq (pv 3) pe_int (fun _ _ => rfl)) pa_nil)) pa_nil)) pa_nil)))))))) (pg_name (i := 8) sc_law.nd rfl (Or.inl rfl))
          (pss_one (ps_if (pt_not (pt_val (pe_call G_law_right hr_law_right (by rfl) D_law_right.g D_law_right.F.kp D_law_right.b .nil pass0 (pa_cons (pv 3) (pa_cons (pv 8) pa_nil)))))
            (pss_one (ps_ret pe_bl))
            pss_nil)))
        (pss_one (ps_if (pt_cmpR op_gt (pe_op op_add (pe_call G_side_weight hr_side_weight (by rfl) D_side_weight.g D_side_weight.F.kp D_side_weight.b .nil pass0 (pa_cons (pv 3) (pa_cons (pv 6) pa_nil))) (pe_call G_side_weight hr_side_weight (by rfl) D_side_weight.g D_side_weight.F.kp D_side_weight.b .nil pass0 (pa_cons (pv 3) (pa_cons (pv 7) pa_nil)))) (pe_op op_add (pe_call G_side_weight hr_side_weight (by rfl) D_side_weight.g D_side_weight.F.kp D_side_weight.b .nil pass0 (pa_cons (pv 3) (pa_cons (pv 4) pa_nil))) (pe_call G_side_weight hr_side_weight (by rfl) D_side_weight.g D_side_weight.F.kp D_side_weight.b .nil pass0 (pa_cons (pv 3) (pa_cons (pv 5) pa_nil)))) (nomark _))
          (pss_one (ps_ret pe_bl))
          pss_nil)))))))))
      (pss_one (ps_ret pe_bl))), ?_⟩
    have w0 : Wd [] H H := ⟨Ex.refl H, (fun s m => by cases m), (fun s m => by cases m)⟩
    have hscr : Dp K H (.ref a) (.list (ns.map .int)) := .lst hS DpAll.ints
    obtain ⟨m, hm, hm0, hm1⟩ : ∃ m : Int, (if (if (8 : Int) < (((ns.map PyData.int).length : Nat) : Int) then 8 else (((ns.map PyData.int).length : Nat) : Int)) > 1 then (if (8 : Int) < (((ns.map PyData.int).length : Nat) : Int) then 8 else (((ns.map PyData.int).length : Nat) : Int)) else 1) = m ∧ 0 ≤ m ∧ m ≤ 63 := by
      refine ⟨_, rfl, ?_⟩
      rw [List.length_map]
      split <;> split <;> omega
    refine st_for (K := K) (rngI 0 m.toNat) PyData.int w0 (wk_rng1 (ea_cons (ev_is (ev_max2 ev_int (ev_min2 (ev_len (t := false) (ev_var rfl hscr)) ev_int)) (by rw [← hm])) ea_nil) (by omega)) fun B1 H1 e1 eB1 w1 => ⟨fun i σ' H' => Ex H1 H' ∧ ∃ x1 x2 x3 x4 x5 x6 x7 x8, σ' = [some (.ref a), x1, x2, x3, x4, x5, x6, x7, x8, none], ⟨Ex.refl _, none, none, none, none, none, none, none, none, rfl⟩, ?_, ?_⟩
    · rintro i k σ' H' hk ⟨eH, x1, x2, x3, x4, x5, x6, x7, x8, rfl⟩
      refine ⟨[], B1, Ex.refl _, w1.ext eH, fun x B2 H2 e2 eB2 w2 hx => ?_⟩
      cases hx
      have hk2 := rngI_mem.mp (List.mem_of_getElem? hk)
      obtain ⟨kn, rfl⟩ : ∃ kn : Nat, k = (kn : Int) := ⟨k.toNat, by omega⟩
      have eF : Ex H H2 := e1.trans (eH.trans e2)
      -- the box
      refine ⟨_, rfl, _, rfl, a, ns, kn, rfl, ex_l eF hS, by omega, fun b H3 hb e3 hB3 => ?_⟩
      have w3 : Wd [b] B2 H3 := w2.ownX hb e3 hB3.some
      -- the web
      refine ⟨_, rfl, _, rfl, b, 2, 6, 30, 0, rfl, hB3, by decide, by decide, by decide, by decide, by decide, fun n H4 hn hb4 => ⟨[b], b, n, _, rfl, List.mem_singleton.mpr rfl, hb4.def w3.at_, hb4.at_, by omega, by omega, by omega, fun v4 H5 ts hw hd4 hb5 => ?_⟩⟩
      have hbx5 := hb4.trans hb5
      obtain ⟨w5, eB5⟩ := w3.bx List.mem_cons_self hbx5
      -- one, other
      refine ⟨_, rfl, (ev_ix (K := K) (t := true) (d := .int n) (ev_var (v := v4) rfl hd4) ev_int rfl).bind w5 fun u B6 H6 e6 eB6 w6 hu => ?_⟩
      cases hu
      refine ⟨[b], b, n, _, rfl, List.mem_cons_self, w6.at_, hbx5.at_.ex e6, by omega, by omega, by omega, fun v7 H7 one hone hd7 hb7 => ?_⟩
      obtain ⟨w7, eB7⟩ := w6.bx List.mem_cons_self hb7
      refine ⟨_, rfl, (ev_ix (K := K) (t := true) (d := .int n) (ev_var (v := v4) rfl (Dp.mono (eB6.trans eB7) hd4)) ev_int rfl).bind w7 fun u B8 H8 e8 eB8 w8 hu => ?_⟩
      cases hu
      refine ⟨[b], b, n, _, rfl, List.mem_cons_self, w8.at_, hb7.at_.ex e8, by omega, by omega, by omega, fun v9 H9 other hother hd9 hb9 => ?_⟩
      obtain ⟨w9, eB9⟩ := w8.bx List.mem_cons_self hb9
      refine ⟨(by show 2 ≤ sizeLine; decide), fun p hp => ⟨p, _, rfl, st_of upd_same, rfl, _, _, rfl, _, _, rfl, rfl, ?_⟩⟩
      have w10 : Wd [b] (mi H9 [b]) (upd H9 p (.tup [v7, v9])) := w9.ext (Ex.new hp)
      have x10 : Xs [b] H3 (upd H9 p (.tup [v7, v9])) := (hbx5.x.trans ((Xs.of e6).trans (hb7.x.trans ((Xs.of e8).trans hb9.x)))).trans (Xs.of (Ex.new hp))
      have h4 := Dp.mono (eB6.trans (eB7.trans (eB8.trans eB9))) hd4
      have h5 := Dp.mono (eB8.trans eB9) hd7
      have h6 := hd9
      generalize upd H9 p (.tup [v7, v9]) = H10 at w10 x10 ⊢
      generalize mi H9 [b] = B10 at w10 h4 h5 h6
      -- both
      refine st_asg w10 (ev_lc one .int (fun p => decide (p ∈ other)) PyData.int (wk_list (ev_var rfl h5)) (by omega) fun p hp => turn_name (fun _ => rfl) (fun x B' e hx => eb_test (ev_in (neg := false) (t := false) (ev_var rfl hx) (ev_var rfl (Dp.mono e h6)))) fun x B' e hx _ => ev_var rfl hx) fun v11 B11 H11 e11 eB11 w11 h11 => ?_
      replace h4 := Dp.mono eB11 h4
      replace h5 := Dp.mono eB11 h5
      replace h6 := Dp.mono eB11 h6
      -- either
      refine st_asg w11 (ev_lc (rngI 0 n.toNat) .int (fun p => decide (p ∈ one) || decide (p ∈ other)) PyData.int (wk_rng1 (ea_cons (ev_ix (t := true) (ev_var (v := v4) rfl h4) ev_int rfl) ea_nil) (by omega)) (by rw [rngI_len]; omega) fun p hp => turn_name (fun _ => rfl) (fun x B' e hx => eb_or (eb_test (ev_in (neg := false) (t := false) (ev_var rfl hx) (ev_var rfl (Dp.mono e h5)))) fun _ => eb_test (ev_in (neg := false) (t := false) (ev_var rfl hx) (ev_var rfl (Dp.mono e h6)))) fun x B' e hx _ => ev_var rfl hx) fun v12 B12 H12 e12 eB12 w12 h12 => ?_
      replace h4 := Dp.mono eB12 h4
      replace h5 := Dp.mono eB12 h5
      replace h6 := Dp.mono eB12 h6
      replace h11 := Dp.mono eB12 h11
      have hl1 : (one.filter fun p => decide (p ∈ other)).length ≤ 100 := Nat.le_trans (List.length_filter_le _ _) hone
      have hl2 : ((rngI 0 n.toNat).filter fun p => decide (p ∈ one) || decide (p ∈ other)).length ≤ 100 := Nat.le_trans (List.length_filter_le _ _) (by rw [rngI_len]; omega)
      have hsides : ∀ s ∈ [one, other, one.filter (fun p => decide (p ∈ other)), (rngI 0 n.toNat).filter (fun p => decide (p ∈ one) || decide (p ∈ other)), [], rngI 0 n.toNat], s.length ≤ 100 := by
        intro s hs
        simp only [List.mem_cons, List.not_mem_nil, or_false] at hs
        rcases hs with rfl | rfl | rfl | rfl | rfl | rfl
        · exact hone
        · exact hother
        · exact hl1
        · exact hl2
        · exact Nat.zero_le _
        · rw [rngI_len]; omega
      -- each side
      refine st_for (K := K) [one, other, one.filter (fun p => decide (p ∈ other)), (rngI 0 n.toNat).filter (fun p => decide (p ∈ one) || decide (p ∈ other)), [], rngI 0 n.toNat] (fun s => PyData.list (s.map PyData.int)) w12
        (wk_tup (ev_tup (ea_cons (ev_var rfl h5) (ea_cons (ev_var rfl h6) (ea_cons (ev_var rfl h11) (ea_cons (ev_var rfl h12) (ea_cons (ev_lst ea_nil (by decide)) (ea_cons (ev_listrange (ev_ix (t := true) (ev_var (v := v4) rfl h4) ev_int rfl) (by omega)) ea_nil)))))) (by show 6 ≤ 100000; decide)))
        fun B13 H13 e13 eB13 w13 => ⟨fun j σ' H' => Ex H13 H' ∧ ∃ y8, σ' = [some (.ref a), some (.int (kn : Int)), some (.ref b), some v4, some v7, some v9, some v11, some v12, y8, none], ⟨Ex.refl _, _, rfl⟩, ?_, ?_⟩
      · rintro j side σ' H' hj ⟨eH', y8, rfl⟩
        refine ⟨[b], B13, Ex.refl _, w13.ext eH', fun x B14 H14 e14 eB14 w14 hx => ?_⟩
        have hsl := hsides side (List.mem_of_getElem? hj)
        refine st_if w14 (eb_is (c := false) (eb_not (eb_B (ev_call (f := fRight) (d := .bool true) (ea_cons (ev_var rfl (Dp.mono (eB13.trans eB14) h4)) (ea_cons (ev_var rfl hx) ea_nil)) ⟨n, ts, side, rfl, hw, by omega, hsl, rfl⟩))) rfl) (fun z => by cases z) fun _ B15 H15 e15 eB15 w15 => ?_
        exact ⟨eH'.trans (e14.trans e15), _, rfl⟩
      · rintro σ' H' ⟨eH', y8, rfl⟩
        have w14 := w13.ext eH'
        refine ⟨⟨[b], B13, Ex.refl _, w14⟩, ?_⟩
        replace h4 := Dp.mono eB13 h4
        replace h5 := Dp.mono eB13 h5
        replace h6 := Dp.mono eB13 h6
        replace h11 := Dp.mono eB13 h11
        replace h12 := Dp.mono eB13 h12
        have hsw : ∀ (v : V) (s : List Int) (i : Nat) (σ : L2.St), σ[3]? = some (some v4) → σ[i]? = some (some v) → s.length ≤ 100 → Dp K B13 v (.list (s.map .int)) → EvD K (tCall (spD K fSide) [] E0 (tCons (tVar 3) (tCons (tVar i) tNil))) σ B13 (.int (sideW ts s)) := fun v s i σ g1 g2 g3 g4 =>
          ev_call (f := fSide) (ea_cons (ev_var g1 h4) (ea_cons (ev_var g2 g4) ea_nil)) ⟨n, ts, false, s, rfl, hw, by omega, rfl⟩
        refine st_if w14 (eb_is (c := false) (eb_test (ev_cmp (ev_add (hsw v11 _ 6 _ rfl rfl hl1 h11) (hsw v12 _ 7 _ rfl rfl hl2 h12)) (ev_add (hsw v7 one 4 _ rfl rfl hone h5) (hsw v9 other 5 _ rfl rfl hother h6)))) ?_) (fun z => by cases z) fun _ B15 H15 e15 eB15 w15 => ?_
        · have := side_mod hw one other
          exact decide_eq_false (by omega)
        · exact ⟨(eH.trans e2).trans (Xs.ex1 (x10.trans (Xs.of (e11.trans (e12.trans (e13.trans (eH'.trans e15)))))) e3 hb), _, _, _, _, _, _, _, _, rfl⟩
    · rintro σ' H' ⟨eH, x1, x2, x3, x4, x5, x6, x7, x8, rfl⟩
      exact ⟨⟨[], B1, Ex.refl _, w1.ext eH⟩, q _⟩
end
end Pw

namespace Pw
open PySem L2 Evl
theorem all_mk {l : PySem.W.OpenLaw} {w : World} {K : PySem.W.Frag} {h : Heap} {mg : Str → Option Value} {fa f1 f2 f3 f4 f5 f6 f7 f8 f9 f10 f11 f12 : Addr} (X : K.In h) (G : h.Ns mainGlobals mg) (hfa : mg "law" = some (.ref fa))
    {od1 an1 od2 an2 od3 an3 od4 an4 od5 an5 od6 an6 od7 an7 od8 an8 od9 an9 od10 an10 od11 an11 od12 an12 : Option Addr} {sl1 sl2 sl3 sl4 sl5 sl6 sl7 sl8 sl9 sl10 sl11 sl12 : Array (Option Value)} {oc1 kV1 dc1 pm1 cd1 ct1 oc2 kV2 dc2 pm2 cd2 ct2 oc3 kV3 dc3 pm3 cd3 ct3 oc4 kV4 dc4 pm4 cd4 ct4 oc5 kV5 dc5 pm5 cd5 ct5 oc6 kV6 dc6 pm6 cd6 ct6 oc7 kV7 dc7 pm7 cd7 ct7 oc8 kV8 dc8 pm8 cd8 ct8 oc9 kV9 dc9 pm9 cd9 ct9 oc10 kV10 dc10 pm10 cd10 ct10 oc11 kV11 dc11 pm11 cd11 ct11 oc12 kV12 dc12 pm12 cd12 ct12 : Value}
    (a1 : PySem.W.nsIn K mainGlobals "_law_cell_at" = some (some (.ref f1))) (l1 : K.lookup f1 = some ⟨oc1, od1, .func (PySem.W.fnOf "_law_cell_at" "_law_cell_at" (defArgs s_law_cell_at) (defBody s_law_cell_at) (defScope s_law_cell_at) .none kV1 dc1 pm1 an1 cd1 ct1), sl1⟩) (c1 : PySem.W.codeIn K cd1 "_law_cell_at" = true) (k1 : PySem.W.keepIn K (.ref f1) = true)
    (a2 : PySem.W.nsIn K mainGlobals "_law_box" = some (some (.ref f2))) (l2 : K.lookup f2 = some ⟨oc2, od2, .func (PySem.W.fnOf "_law_box" "_law_box" (defArgs s_law_box) (defBody s_law_box) (defScope s_law_box) .none kV2 dc2 pm2 an2 cd2 ct2), sl2⟩) (c2 : PySem.W.codeIn K cd2 "_law_box" = true) (k2 : PySem.W.keepIn K (.ref f2) = true)
    (a3 : PySem.W.nsIn K mainGlobals "_law_take" = some (some (.ref f3))) (l3 : K.lookup f3 = some ⟨oc3, od3, .func (PySem.W.fnOf "_law_take" "_law_take" (defArgs s_law_take) (defBody s_law_take) (defScope s_law_take) .none kV3 dc3 pm3 an3 cd3 ct3), sl3⟩) (c3 : PySem.W.codeIn K cd3 "_law_take" = true) (k3 : PySem.W.keepIn K (.ref f3) = true)
    (a4 : PySem.W.nsIn K mainGlobals "_law_many" = some (some (.ref f4))) (l4 : K.lookup f4 = some ⟨oc4, od4, .func (PySem.W.fnOf "_law_many" "_law_many" (defArgs s_law_many) (defBody s_law_many) (defScope s_law_many) .none kV4 dc4 pm4 an4 cd4 ct4), sl4⟩) (c4 : PySem.W.codeIn K cd4 "_law_many" = true) (k4 : PySem.W.keepIn K (.ref f4) = true)
    (a5 : PySem.W.nsIn K mainGlobals "_law_weight" = some (some (.ref f5))) (l5 : K.lookup f5 = some ⟨oc5, od5, .func (PySem.W.fnOf "_law_weight" "_law_weight" (defArgs s_law_weight) (defBody s_law_weight) (defScope s_law_weight) .none kV5 dc5 pm5 an5 cd5 ct5), sl5⟩) (c5 : PySem.W.codeIn K cd5 "_law_weight" = true) (k5 : PySem.W.keepIn K (.ref f5) = true)
    (a6 : PySem.W.nsIn K mainGlobals "_law_web" = some (some (.ref f6))) (l6 : K.lookup f6 = some ⟨oc6, od6, .func (PySem.W.fnOf "_law_web" "_law_web" (defArgs s_law_web) (defBody s_law_web) (defScope s_law_web) .none kV6 dc6 pm6 an6 cd6 ct6), sl6⟩) (c6 : PySem.W.codeIn K cd6 "_law_web" = true) (k6 : PySem.W.keepIn K (.ref f6) = true)
    (a7 : PySem.W.nsIn K mainGlobals "_law_same" = some (some (.ref f7))) (l7 : K.lookup f7 = some ⟨oc7, od7, .func (PySem.W.fnOf "_law_same" "_law_same" (defArgs s_law_same) (defBody s_law_same) (defScope s_law_same) .none kV7 dc7 pm7 an7 cd7 ct7), sl7⟩) (c7 : PySem.W.codeIn K cd7 "_law_same" = true) (k7 : PySem.W.keepIn K (.ref f7) = true)
    (a8 : PySem.W.nsIn K mainGlobals "_law_some" = some (some (.ref f8))) (l8 : K.lookup f8 = some ⟨oc8, od8, .func (PySem.W.fnOf "_law_some" "_law_some" (defArgs s_law_some) (defBody s_law_some) (defScope s_law_some) .none kV8 dc8 pm8 an8 cd8 ct8), sl8⟩) (c8 : PySem.W.codeIn K cd8 "_law_some" = true) (k8 : PySem.W.keepIn K (.ref f8) = true)
    (a9 : PySem.W.nsIn K mainGlobals "_law_due" = some (some (.ref f9))) (l9 : K.lookup f9 = some ⟨oc9, od9, .func (PySem.W.fnOf "_law_due" "_law_due" (defArgs s_law_due) (defBody s_law_due) (defScope s_law_due) .none kV9 dc9 pm9 an9 cd9 ct9), sl9⟩) (c9 : PySem.W.codeIn K cd9 "_law_due" = true) (k9 : PySem.W.keepIn K (.ref f9) = true)
    (a10 : PySem.W.nsIn K mainGlobals "_law_right" = some (some (.ref f10))) (l10 : K.lookup f10 = some ⟨oc10, od10, .func (PySem.W.fnOf "_law_right" "_law_right" (defArgs s_law_right) (defBody s_law_right) (defScope s_law_right) .none kV10 dc10 pm10 an10 cd10 ct10), sl10⟩) (c10 : PySem.W.codeIn K cd10 "_law_right" = true) (k10 : PySem.W.keepIn K (.ref f10) = true)
    (a11 : PySem.W.nsIn K mainGlobals "side_weight" = some (some (.ref f11))) (l11 : K.lookup f11 = some ⟨oc11, od11, .func (PySem.W.fnOf "side_weight" "side_weight" (defArgs s_side_weight) (defBody s_side_weight) (defScope s_side_weight) .none kV11 dc11 pm11 an11 cd11 ct11), sl11⟩) (c11 : PySem.W.codeIn K cd11 "side_weight" = true) (k11 : PySem.W.keepIn K (.ref f11) = true)
    (a12 : PySem.W.nsIn K mainGlobals "law" = some (some (.ref f12))) (l12 : K.lookup f12 = some ⟨oc12, od12, .func (PySem.W.fnOf "law" "law" (defArgs s_law) (defBody s_law) (defScope s_law) .none kV12 dc12 pm12 an12 cd12 ct12), sl12⟩) (c12 : PySem.W.codeIn K cd12 "law" = true) (k12 : PySem.W.keepIn K (.ref f12) = true)
    (z1 : PySem.W.nsIn K mainGlobals "len" = some none)
    (z2 : PySem.W.nsIn K mainGlobals "abs" = some none)
    (z3 : PySem.W.nsIn K mainGlobals "int" = some none)
    (z4 : PySem.W.nsIn K mainGlobals "dict" = some none)
    (z5 : PySem.W.nsIn K mainGlobals "sum" = some none)
    (z6 : PySem.W.nsIn K mainGlobals "range" = some none)
    (z7 : PySem.W.nsIn K mainGlobals "min" = some none)
    (z8 : PySem.W.nsIn K mainGlobals "max" = some none)
    (z9 : PySem.W.nsIn K mainGlobals "tuple" = some none)
    (z10 : PySem.W.nsIn K mainGlobals "sorted" = some none)
    (z11 : PySem.W.nsIn K mainGlobals "isinstance" = some none)
    (z12 : PySem.W.nsIn K mainGlobals "list" = some none)
    (z13 : PySem.W.nsIn K mainGlobals "str" = some none)
    (z14 : PySem.W.nsIn K mainGlobals "bool" = some none)
    (z15 : PySem.W.nsIn K mainGlobals "all" = some none)
    (z16 : PySem.W.nsIn K mainGlobals "zip" = some none)
    : ∃ fd : FuncData, (∀ (s : Shared) (v : Value), BindsTo s fd ⟨[v], []⟩ [("_law_script", v)]) ∧ ∀ base : Heap, K.In base → base.Ns mainGlobals mg → FnOk l.prog w K mg base CX0 4 fa fd ["_law_script"] (spLaw K) := by
  have e := hfa.symm.trans (PySem.W.mg_of X G a12)
  cases e
  have T : Txt mg := ⟨PySem.W.mg_none_of X G z1, PySem.W.mg_none_of X G z2, PySem.W.mg_none_of X G z3, PySem.W.mg_none_of X G z4, PySem.W.mg_none_of X G z5, PySem.W.mg_none_of X G z6, PySem.W.mg_none_of X G z7, PySem.W.mg_none_of X G z8, PySem.W.mg_none_of X G z9, PySem.W.mg_none_of X G z10, PySem.W.mg_none_of X G z11, PySem.W.mg_none_of X G z12, PySem.W.mg_none_of X G z13, PySem.W.mg_none_of X G z14, PySem.W.mg_none_of X G z15, PySem.W.mg_none_of X G z16⟩
  have F1 := fun_mk (st := s_law_cell_at) l1 c1 k1
  have D1 : Dfn K mg "_law_cell_at" s_law_cell_at ["_law_script", "_law_k"] f1 _ := ⟨F1, PySem.W.mg_of X G a1, F1.binds (ps := ["_law_script", "_law_k"]) fun _ _ _ _ _ _ us hl => match us, hl with | [_, _], _ => rfl⟩
  have F2 := fun_mk (st := s_law_box) l2 c2 k2
  have D2 : Dfn K mg "_law_box" s_law_box ["_law_script", "_law_k"] f2 _ := ⟨F2, PySem.W.mg_of X G a2, F2.binds (ps := ["_law_script", "_law_k"]) fun _ _ _ _ _ _ us hl => match us, hl with | [_, _], _ => rfl⟩
  have F3 := fun_mk (st := s_law_take) l3 c3 k3
  have D3 : Dfn K mg "_law_take" s_law_take ["_law_box_here", "_law_many_here"] f3 _ := ⟨F3, PySem.W.mg_of X G a3, F3.binds (ps := ["_law_box_here", "_law_many_here"]) fun _ _ _ _ _ _ us hl => match us, hl with | [_, _], _ => rfl⟩
  have F4 := fun_mk (st := s_law_many) l4 c4 k4
  have D4 : Dfn K mg "_law_many" s_law_many ["_law_box_here", "_law_least", "_law_few", "_law_most"] f4 _ := ⟨F4, PySem.W.mg_of X G a4, F4.binds (ps := ["_law_box_here", "_law_least", "_law_few", "_law_most"]) fun _ _ _ _ _ _ us hl => match us, hl with | [_, _, _, _], _ => rfl⟩
  have F5 := fun_mk (st := s_law_weight) l5 c5 k5
  have D5 : Dfn K mg "_law_weight" s_law_weight ["_law_box_here", "_law_heavy"] f5 _ := ⟨F5, PySem.W.mg_of X G a5, F5.binds (ps := ["_law_box_here", "_law_heavy"]) fun _ _ _ _ _ _ us hl => match us, hl with | [_, _], _ => rfl⟩
  have F6 := fun_mk (st := s_law_web) l6 c6 k6
  have D6 : Dfn K mg "_law_web" s_law_web ["_law_box_here", "_law_many_here"] f6 _ := ⟨F6, PySem.W.mg_of X G a6, F6.binds (ps := ["_law_box_here", "_law_many_here"]) fun _ _ _ _ _ _ us hl => match us, hl with | [_, _], _ => rfl⟩
  have F7 := fun_mk (st := s_law_same) l7 c7 k7
  have D7 : Dfn K mg "_law_same" s_law_same ["_law_found", "_law_due_here"] f7 _ := ⟨F7, PySem.W.mg_of X G a7, F7.binds (ps := ["_law_found", "_law_due_here"]) fun _ _ _ _ _ _ us hl => match us, hl with | [_, _], _ => rfl⟩
  have F8 := fun_mk (st := s_law_some) l8 c8 k8
  have D8 : Dfn K mg "_law_some" s_law_some ["_law_box_here", "_law_many_here"] f8 _ := ⟨F8, PySem.W.mg_of X G a8, F8.binds (ps := ["_law_box_here", "_law_many_here"]) fun _ _ _ _ _ _ us hl => match us, hl with | [_, _], _ => rfl⟩
  have F9 := fun_mk (st := s_law_due) l9 c9 k9
  have D9 : Dfn K mg "_law_due" s_law_due ["_law_web_here", "_law_side"] f9 _ := ⟨F9, PySem.W.mg_of X G a9, F9.binds (ps := ["_law_web_here", "_law_side"]) fun _ _ _ _ _ _ us hl => match us, hl with | [_, _], _ => rfl⟩
  have F10 := fun_mk (st := s_law_right) l10 c10 k10
  have D10 : Dfn K mg "_law_right" s_law_right ["_law_web_here", "_law_side"] f10 _ := ⟨F10, PySem.W.mg_of X G a10, F10.binds (ps := ["_law_web_here", "_law_side"]) fun _ _ _ _ _ _ us hl => match us, hl with | [_, _], _ => rfl⟩
  have F11 := fun_mk (st := s_side_weight) l11 c11 k11
  have D11 : Dfn K mg "side_weight" s_side_weight ["web", "side"] f11 _ := ⟨F11, PySem.W.mg_of X G a11, F11.binds (ps := ["web", "side"]) fun _ _ _ _ _ _ us hl => match us, hl with | [_, _], _ => rfl⟩
  have F12 := fun_mk (st := s_law) l12 c12 k12
  have D12 : Dfn K mg "law" s_law ["_law_script"] _ _ := ⟨F12, PySem.W.mg_of X G a12, F12.binds (ps := ["_law_script"]) fun _ _ _ _ _ _ us hl => match us, hl with | [_], _ => rfl⟩
  exact ⟨PySem.W.fnOf "law" "law" (defArgs s_law) (defBody s_law) (defScope s_law) .none kV12 dc12 pm12 an12 cd12 ct12, fun s v => .of_eq rfl, fun base _ _ => ok_law T D1 D2 D3 D4 D5 D6 D7 D8 D9 D10 D11 D12⟩
end Pw
open PySem PySem.W PyProof.Rows
set_option maxHeartbeats 0 in
theorem PySem.Challenge.cw_partedweb_k10_sides_weighed_holds : PySem.Challenge.rw_partedweb_k10_sides_weighed.Holds := by
  w_on; o_law; k_head; (case hw => w_witness2)
  k_fill
  refine L2.walk_of (l := PySem.Challenge.rw_partedweb_k10_sides_weighed) (n := 63) (k := 4) (x := "_law_script") (CX := fun _ => L2.CX0) (sp := fun w => Pw.spLaw _) rfl (by decide) rfl ⟨rfl, by decide, by decide⟩ (fun w h Y => PySem.W.kIn_of Y) ?F (fun _ _ a ns hl _ hS => ⟨a, ns, rfl, hS, hl, fun _ => rfl⟩) (fun _ _ _ _ _ h => h)
  case F =>
    intro w mg fa h KX G hmg
    refine' Pw.all_mk KX G hmg ?a1 ?l1 ?c1 ?k1 ?a2 ?l2 ?c2 ?k2 ?a3 ?l3 ?c3 ?k3 ?a4 ?l4 ?c4 ?k4 ?a5 ?l5 ?c5 ?k5 ?a6 ?l6 ?c6 ?k6 ?a7 ?l7 ?c7 ?k7 ?a8 ?l8 ?c8 ?k8 ?a9 ?l9 ?c9 ?k9 ?a10 ?l10 ?c10 ?k10 ?a11 ?l11 ?c11 ?k11 ?a12 ?l12 ?c12 ?k12 ?z1 ?z2 ?z3 ?z4 ?z5 ?z6 ?z7 ?z8 ?z9 ?z10 ?z11 ?z12 ?z13 ?z14 ?z15 ?z16
    (case a1 => k_is); (case l1 => k_is); (case c1 => k_is); (case k1 => k_is); (case a2 => k_is); (case l2 => k_is); (case c2 => k_is); (case k2 => k_is)
    (case a3 => k_is); (case l3 => k_is); (case c3 => k_is); (case k3 => k_is); (case a4 => k_is); (case l4 => k_is); (case c4 => k_is); (case k4 => k_is)
    (case a5 => k_is); (case l5 => k_is); (case c5 => k_is); (case k5 => k_is); (case a6 => k_is); (case l6 => k_is); (case c6 => k_is); (case k6 => k_is)
    (case a7 => k_is); (case l7 => k_is); (case c7 => k_is); (case k7 => k_is); (case a8 => k_is); (case l8 => k_is); (case c8 => k_is); (case k8 => k_is)
    (case a9 => k_is); (case l9 => k_is); (case c9 => k_is); (case k9 => k_is); (case a10 => k_is); (case l10 => k_is); (case c10 => k_is); (case k10 => k_is)
    (case a11 => k_is); (case l11 => k_is); (case c11 => k_is); (case k11 => k_is); (case a12 => k_is); (case l12 => k_is); (case c12 => k_is); (case k12 => k_is)
    (case z1 => k_is); (case z2 => k_is); (case z3 => k_is); (case z4 => k_is); (case z5 => k_is); (case z6 => k_is); (case z7 => k_is); (case z8 => k_is)
    (case z9 => k_is); (case z10 => k_is); (case z11 => k_is); (case z12 => k_is); (case z13 => k_is); (case z14 => k_is); (case z15 => k_is); (case z16 => k_is)
