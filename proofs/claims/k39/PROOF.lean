import PyProof.Rows.All
import Wide.All
import OpenK.AllK
import Wide.FinOn
import HandS.ForMost
import HandS.Zip
import HandS.TupAny
import HandS.IsInst
import HandS.Gcd
import HandS.Star
import HandS.SetFor
import HandS.SortInts
import HandS.Flow
import HandS.Style
import HandS.TupSets
import HandS.WideBits
import KE.DataMinMax
import KE.DataFind
import KE.KTupSum
import KE.KMathGC
import KE.GoesMore
import PySem.Challenge.RW_bothwheels_k39_whole_rows_each_once_up_t
set_option Elab.async false
set_option linter.all false
set_option maxRecDepth 100000
set_option maxHeartbeats 4000000
/-! rules that the layer lacks -/
namespace Rw
open PySem PySem.Spec PyProof.Rows L2

section
variable {X : Cx}
/-- xs[k], by values, for an in-place operator -/
def rGetL (K : PySem.W.Frag) : V → V → Hp → VK → Prop := fun o i H Q => ∃ p xs k v, o = .ref p ∧ i = .int ((k : Nat) : Int) ∧ SqL K H p xs ∧ xs[k]? = some v ∧ Q v H
theorem pg_list : PGet X (rGetL X.K) := by
  intro pins s σ H o i ov iv Q I ro ri h
  obtain ⟨p, xs, k, v, rfl, rfl, hs, hk, q⟩ := h
  cases ro
  obtain ⟨t, rfl⟩ := ri
  obtain ⟨its, r, pl, hz⟩ := I.list hs
  obtain ⟨u, hu, ru⟩ := r.get hk
  have hlt := (List.getElem?_eq_some_iff.mp hk).1
  have hn := line63
  exact wpAny_getItem_list pl.isList (Int.natCast_nonneg _) (by omega) (by simpa using hu) ⟨v, H, I, ru, q⟩

/-- sum(t) of a tuple of ints -/
def rSumT (K : PySem.W.Frag) : List V → Hp → VK → Prop := fun vs H Q => ∃ (a : Addr) (ns : List Int), vs = [V.ref a] ∧ SqT K H a (ns.map V.int) ∧ Q (.int ns.sum) H
theorem cr_sumT (hc : X.calm = true) : CallR X (.builtin "sum") (rSumT X.K) := by
  intro pins s σ H vs us Q I r h
  obtain ⟨a, ns, rfl, hs, q⟩ := h
  obtain ⟨its, rv, hl, _⟩ := I.tuple hs
  rw [Vals.ref1 r]
  obtain ⟨xs, e⟩ := rv.ints.allInts.items
  have hn : numsOf (intItems xs).toList = ns := by rw [← e]; exact rv.ints.numsOf
  rw [nums_intItems] at hn
  rw [e] at hl
  refine PySem.W.ktm_sumG (I.ok.hd hc) hl fun h' tk t' hk => ?_
  refine ⟨.int ns.sum, H, I.kept hk, ⟨t', ?_⟩, q⟩
  rw [preSum_eq, List.take_of_length_le (by simp), hn]
/-- t.count(k), t a tuple of ints -/
def rCntT (K : PySem.W.Frag) : V → List V → Hp → VK → Prop := fun x xs H Q => ∃ (p : Addr) (ns : List Int) (k : Int), x = .ref p ∧ xs = [.int k] ∧ SqT K H p (ns.map V.int) ∧ Q (.int (ns.count k : Nat)) H
theorem mt_tcount : MtR X "tuple.count" (rCntT X.K) := by
  intro pins s σ H x xs v us Q I rx rxs h
  obtain ⟨p, ns, k, rfl, rfl, hs, q⟩ := h
  cases rx
  obtain ⟨u, rfl, ru⟩ := rxs.one
  obtain ⟨t, rfl⟩ := ru
  obtain ⟨its, rv, ⟨⟨cls, dd, data, sl⟩, ho, hc, n, hd⟩, hlen⟩ := I.tuple hs
  simp only at hc hd
  subst hc hd
  have hi := ints_of_vals rv
  refine call_meets PySem.F.slot_tuple_count ⟨_, ho, rfl⟩ PySem.F.entry_tuple_count (PySem.F.args_tuple_count_2 _ _)
    (SeqAt.tuple_countAt p its.toArray n dd sl (.int k t) (eqk k)) ⟨ho, fun y hy => (eqk_gives hi y (by simpa using hy)).at _ _, ?_⟩
  have ec : its.toArray.toList.countP (eqk k) = ns.count k := eqk_count hi
  refine ⟨.int (ns.count k : Nat), H, I.tok _, ⟨s.toks, ?_⟩, q⟩
  show Value.int ((its.toArray.toList.countP (eqk k) : Nat) : Int) s.toks = Value.int ((ns.count k : Nat) : Int) s.toks
  rw [ec]
/-- factorial(n) -/
def rFact : List V → Hp → VK → Prop := fun vs H Q => ∃ n : Nat, vs = [.int (n : Int)] ∧ n ≤ 20000 ∧ Q (.int ((Builtin.Math.factorialNat n : Nat) : Int)) H
theorem cr_fact : CallR X (.builtin "math.factorial") rFact := by
  intro pins s σ H vs us Q I r h
  obtain ⟨n, rfl, hn, q⟩ := h
  obtain ⟨u, rfl, t, rfl⟩ := Vals.one r
  exact PySem.W.mc_factorial (Int.natCast_nonneg _) (by omega) fun _ => ⟨.int _, H, I.tok _, ⟨_, rfl⟩, q⟩
end

/-! ### max of a tuple of ints, min of a list of tuples of ints -/
theorem alikeAll_ints (ns : List Int) : PySem.W.AlikeAll (ns.map PyData.int) := by
  refine ⟨fun x hx y hy => ?_, fun x hx => ?_⟩
  · obtain ⟨i, _, rfl⟩ := List.mem_map.mp hx
    obtain ⟨j, _, rfl⟩ := List.mem_map.mp hy
    rfl
  · obtain ⟨i, _, rfl⟩ := List.mem_map.mp hx
    intro z; cases z
/-- a tuple of ints as data -/
def tI (ns : List Int) : PyData := .tuple (ns.map PyData.int)
theorem alike_ints : ∀ ns ms : List Int, PySem.W.alikeAll (ns.map PyData.int) (ms.map PyData.int) = true
  | [], _ => by unfold PySem.W.alikeAll; rfl
  | _ :: _, [] => by unfold PySem.W.alikeAll; rfl
  | n :: ns, m :: ms => by
    show PySem.W.alikeAll (.int n :: ns.map PyData.int) (.int m :: ms.map PyData.int) = true
    unfold PySem.W.alikeAll
    rw [alike_ints ns ms]
    rfl
theorem alike_tI (ns ms : List Int) : PySem.W.alike (tI ns) (tI ms) = true := by
  unfold tI PySem.W.alike
  exact alike_ints ns ms
theorem alikeAll_tI (rs : List (List Int)) : PySem.W.AlikeAll (rs.map tI) := by
  refine ⟨fun x hx y hy => ?_, fun x hx => ?_⟩
  · obtain ⟨i, _, rfl⟩ := List.mem_map.mp hx
    obtain ⟨j, _, rfl⟩ := List.mem_map.mp hy
    exact alike_tI i j
  · obtain ⟨i, _, rfl⟩ := List.mem_map.mp hx
    intro z; cases z
theorem depthAll_ints : ∀ ns : List Int, PyData.depthAll (ns.map PyData.int) ≤ 1
  | [] => by simp [PyData.depthAll]
  | n :: ns => by
    have h := depthAll_ints ns
    simp only [List.map_cons, PyData.depthAll, PyData.depth]
    omega
theorem depth_tI (ns : List Int) : (tI ns).depth ≤ 2 := by
  have h := depthAll_ints ns
  simp only [tI, PyData.depth]
  omega
theorem depthAll_tI : ∀ rs : List (List Int), PyData.depthAll (rs.map tI) ≤ 2
  | [] => by simp [PyData.depthAll]
  | r :: rs => by
    have h := depthAll_tI rs
    have h2 := depth_tI r
    simp only [List.map_cons, PyData.depthAll]
    omega
theorem eqv_int (i j : Int) : PyData.eqv (.int i) (.int j) = decide (i = j) := by
  simp only [PyData.eqv]
  rw [Bool.beq_eq_decide_eq]
theorem dataLt_tI : ∀ ns ms : List Int, PySem.W.dataLt (tI ns) (tI ms) = HT.lexLt ns ms := by
  intro ns ms
  unfold tI
  rw [PySem.W.dataLt_tuple]
  induction ns generalizing ms with
  | nil =>
    cases ms with
    | nil => rfl
    | cons m ms => rfl
  | cons n ns ih =>
    cases ms with
    | nil => rfl
    | cons m ms =>
      rw [HT.lexLt_cons]
      by_cases h : n = m
      · subst h
        rw [if_pos rfl, ← ih ms]
        exact PySem.W.dataLt_all_yes rfl (by rw [eqv_int]; exact decide_eq_true rfl)
      · rw [if_neg h]
        refine (PySem.W.dataLt_all_no (x := .int n) (y := .int m) (xs := ns.map PyData.int) (ys := ms.map PyData.int) rfl (by rw [eqv_int]; exact decide_eq_false h)).trans ?_
        exact PySem.W.dataLt_int n m
/-- the first of the least of some rows -/
def minR (x : List Int) (xs : List (List Int)) : List Int := xs.foldl (fun a y => if HT.lexLt y a = true then y else a) x
theorem minD_tI : ∀ (xs : List (List Int)) (x : List Int), PySem.W.minD (tI x) (xs.map tI) = tI (minR x xs)
  | [], _ => rfl
  | y :: ys, x => by
    unfold PySem.W.minD minR
    rw [List.map_cons, List.foldl_cons, List.foldl_cons, dataLt_tI]
    have h := minD_tI ys (if HT.lexLt y x = true then y else x)
    unfold PySem.W.minD minR at h
    rw [← h]
    congr 1
    split <;> rfl

theorem reads_ints_inv {h : Heap} : ∀ {us : List Value} {ns : List Int} {as : List Addr}, ReadsAll h us (ns.map PyData.int) as → IntsAre us ns
  | _, [], _, r => by cases r; exact .nil
  | _, n :: ns, _, r => by
    cases r with
    | cons a b =>
      cases a
      exact .cons _ _ (reads_ints_inv b)
theorem vals_ints_reads {h : Heap} : ∀ {ns : List Int} {us : List Value}, Vals (ns.map V.int) us → ReadsAll h us (ns.map PyData.int) []
  | [], _, r => by cases r; exact .nil
  | n :: ns, _, r => by
    cases r with
    | cons a b =>
      obtain ⟨t, rfl⟩ := a
      exact .cons (as := []) (bs := []) (.int n t) (vals_ints_reads b)
section
variable {X : Cx}
/-- max(t), t a tuple of ints -/
def rMaxT (K : PySem.W.Frag) : List V → Hp → VK → Prop := fun vs H Q => ∃ (a : Addr) (n : Int) (ns : List Int), vs = [V.ref a] ∧ SqT K H a ((n :: ns).map V.int) ∧ Q (.int (ns.foldl max n)) H
theorem cr_maxT (hc : X.calm = true) (hu : X.A.units + 64 < cLine) : CallR X (.builtin "max") (rMaxT X.K) := by
  intro pins s σ H vs us Q I r h
  obtain ⟨a, n, ns, rfl, hs, q⟩ := h
  obtain ⟨its, rv, hl, _⟩ := I.tuple hs
  rw [Vals.ref1 r]
  have hd := depthAll_ints (n :: ns)
  refine PySem.W.max_tuple_data (x := .int n) (xs := ns.map PyData.int) (I.ok.hd hc) hl (vals_ints_reads (ns := n :: ns) rv) (alikeAll_ints (n :: ns)) (by
    have : PyData.depthAll (PyData.int n :: ns.map PyData.int) ≤ 1 := hd
    omega) fun i v h' tk bs hv hr hk => ?_
  rw [PySem.W.maxD_ints] at hr
  cases hr
  exact ⟨.int _, H, I.kept hk, ⟨_, rfl⟩, q⟩
/-- a tuple of ints that stands at an address -/
def TI (H : Hp) (v : V) (ns : List Int) : Prop := ∃ a, v = .ref a ∧ H a = some (.tup (ns.map V.int))
/-- min(xs), xs a list of tuples of ints, not empty: one of them -/
def rMinR (K : PySem.W.Frag) : List V → Hp → VK → Prop := fun vs H Q => ∃ (a : Addr) (xs : List V) (r : List Int) (rs : List (List Int)), vs = [V.ref a] ∧ SqL K H a xs ∧ Paired (TI H) xs (r :: rs) ∧
  ∀ v, TI H v (minR r rs) → Q v H
theorem dpAll_rows {K : PySem.W.Frag} {H : Hp} : ∀ {xs : List V} {rs : List (List Int)}, Paired (TI H) xs rs → DpAll K H xs (rs.map tI)
  | _, _, .nil => .nil
  | _, _, .cons (a := x) (b := r) h t => by
    obtain ⟨a, rfl, ha⟩ := h
    refine .cons (.tup (SqT.of ha) ?_) (dpAll_rows t)
    have intsD : ∀ ns : List Int, DpAll K H (ns.map V.int) (ns.map PyData.int) := fun ns => by
      induction ns with
      | nil => exact .nil
      | cons n ns ih => exact .cons (.int n) ih
    exact intsD r
theorem paired_get' {α β : Type} {F : α → β → Prop} : ∀ {xs : List α} {ys : List β}, Paired F xs ys → ∀ (i : Nat) (x : α), xs[i]? = some x → ∃ y, ys[i]? = some y ∧ F x y
  | _, _, .nil, i, x, h => by simp at h
  | _, _, .cons r t, 0, x, h => ⟨_, rfl, by
      have e : _ = x := Option.some.inj h
      rw [← e]
      exact r⟩
  | _, _, .cons r t, i + 1, x, h => paired_get' t i x (by simpa using h)
theorem cr_minR (hc : X.calm = true) (hu : X.A.units + 64 < cLine) : CallR X (.builtin "min") (rMinR X.K) := by
  intro pins s σ H vs us Q I r h
  obtain ⟨a, xs, n, ns, rfl, hs, hp, q⟩ := h
  obtain ⟨its, rv, hl, _⟩ := I.list hs
  rw [Vals.ref1 r]
  obtain ⟨as, hr⟩ := Dp.readsAll I _ _ _ (dpAll_rows hp) rv
  have hd := depthAll_tI (n :: ns)
  refine PySem.W.min_list_data (x := tI n) (xs := ns.map tI) (I.ok.hd hc) hl.isList (by simpa using hr) (alikeAll_tI (n :: ns)) (by
    have : PyData.depthAll (tI n :: ns.map tI) ≤ 2 := hd
    omega) fun i v h' tk bs hv hr' hk => ?_
  rw [minD_tI] at hr'
  have I' : Inv X pins σ H { s with heap := h', toks := tk } := I.kept hk
  have hv' : its[i]? = some v := by simpa using hv
  have hlen := rv.length
  have hi := (List.getElem?_eq_some_iff.mp hv').1
  have hx : xs[i]? = some (xs[i]'(by omega)) := List.getElem?_eq_getElem _
  obtain ⟨u, hu', ru⟩ := rv.get hx
  rw [hv'] at hu'
  cases hu'
  obtain ⟨ms, hms, t, et, ht⟩ := paired_get' hp i _ hx
  rw [et] at ru
  cases ru
  refine ⟨.ref t, H, I', rfl, q _ ⟨t, rfl, ?_⟩⟩
  obtain ⟨its2, rv2, ⟨o2, e2, c2, n2, d2⟩, _⟩ := I'.tuple (SqT.of ht)
  have e2' : h'.get? t = some o2 := e2
  have key : IntsAre its2 (minR n ns) := by
    generalize hm : minR n ns = mm at hr'
    unfold tI at hr'
    cases hr' with
    | tuple e3 c3 d3 ra =>
      rw [e2'] at e3
      cases e3
      rw [d2] at d3
      injection d3 with d4 _
      have z := reads_ints_inv ra
      rw [← d4] at z
      simpa using z
  have e : ms = minR n ns := by
    have z := (ints_of_vals rv2)
    have z1 := z.numsOf
    have z2 := key.numsOf
    exact z1.symm.trans z2
  rw [← e]
  exact ht
end
end Rw

namespace Rw
open PySem PySem.Spec PyProof.Rows L2

/-! ### enumerate(tuple) -/
theorem meets_enumerate_newT (l : Addr) (items : Array Value) (n : Nat) (dct : Option Addr) (sl : Array (Option Value)) :
    Meets (Builtin.«enumerate.__new__» ⟨[.type "enumerate", .ref l], []⟩) (fun _ R s => s.heap.get? l = some { cls := .type "tuple", dict := dct, data := .seq items n, slots := sl } ∧
      R (.ok (.ret (.ref (s.heap.push { cls := .type "tuple_iterator", data := .fields #[.ref l, .int 0 0] }).objs.size)))
        { s with heap := (s.heap.push { cls := .type "tuple_iterator", data := .fields #[.ref l, .int 0 0] }).push { cls := .type "enumerate", data := .fields #[.none, .bool false, .ref s.heap.objs.size, rawInt 0, .none, .none] } }) :=
  .of_wp fun prog w A R s h => by
    obtain ⟨hp, g, d, tk, os⟩ := s; obtain ⟨hl, h⟩ := h
    have hsub := sub_enumerate
    have hL : Heap.IsTuple (Shared.heap ⟨hp, g, d, tk, os⟩) l items := ⟨_, hl, rfl, n, rfl⟩
    wp_walk using AutoSeq1.wpAny_loadPart' hl
    refine wpAny_stack_any fun st => wpAny_pure ?_
    split
    · rename_i c _ _ _ _ _
      cases (c == Value.type "enumerate")
      · wp_walk using AutoSeq1.wpAny_loadPart' hl, wpAny_pyIter_tuple hL
        exact ⟨_, rfl, h⟩
      · wp_walk using AutoSeq1.wpAny_loadPart' hl, wpAny_pyIter_tuple hL
        exact ⟨_, rfl, h⟩
    · wp_walk using AutoSeq1.wpAny_loadPart' hl, wpAny_pyIter_tuple hL
      exact ⟨_, rfl, h⟩
section
variable {prog : Program} {w : World} {A : Around} {E : Value → Shared → Prop} {s : Shared}
theorem call_enumerate_tuple {l : Addr} {items : Array Value} {Q : Value → Shared → Prop} (hL : s.heap.IsTuple l items)
    (h : ∀ h', IsEnum h' (s.heap.objs.size + 1) s.heap.objs.size 0 .none → h'.IsTupleIter s.heap.objs.size l 0 → h'.objs.size = s.heap.objs.size + 2 →
      (∀ b o, s.heap.get? b = some o → h'.get? b = some o) → Q (.ref (s.heap.objs.size + 1)) { s with heap := h' }) :
    wpAny (model prog w) A (call (.type "enumerate") [.ref l]) Q E s := by
  obtain ⟨⟨c, dct, dt, sl⟩, hl, hc, n, hd⟩ := hL
  replace hc : c = .type "tuple" := hc
  replace hd : dt = .seq items n := hd
  subst hc hd
  refine callType_new F.called_enumerate (by decide) (F.typeCall_enumerate_1 _) (F.newCall_enumerate_1 _) (fun obj => F.args_object_init_2 obj _) F.entry_enumerate_new
    (meets_enumerate_newT l items n dct sl) ⟨hl, ?_⟩
  have hz : (s.heap.push { cls := .type "tuple_iterator", data := .fields #[.ref l, .int 0 0] }).objs.size = s.heap.objs.size + 1 := Heap.size_push ..
  show _ ∧ _
  rw [hz]
  have he : IsEnum ((s.heap.push { cls := .type "tuple_iterator", data := .fields #[.ref l, .int 0 0] }).push
      { cls := .type "enumerate", data := .fields #[.none, .bool false, .ref s.heap.objs.size, rawInt 0, .none, .none] }) (s.heap.objs.size + 1) s.heap.objs.size 0 .none := by
    have := Heap.get?_push_size (s.heap.push { cls := .type "tuple_iterator", data := .fields #[.ref l, .int 0 0] })
      (o := { cls := .type "enumerate", data := .fields #[.none, .bool false, .ref s.heap.objs.size, rawInt 0, .none, .none] }) rfl
    rw [hz] at this; exact this
  refine ⟨⟨_, he, rfl⟩, h _ he ⟨_, Heap.get?_push_of_some _ (Heap.get?_push_size _ rfl), rfl, rfl⟩ (by rw [Heap.size_push, hz]) fun b o x => Heap.get?_push_of_some _ (Heap.get?_push_of_some _ x)⟩
end
/-- the tuple at a, each item in a new pair -/
def IteT (K : PySem.W.Frag) (a : Addr) : It :=
  ⟨fun i H => ∃ (xs : List V) (x : V), SqT K H a xs ∧ xs[i]? = some x, fun i H v H' => ∃ T x, v = .ref T ∧ H T = none ∧ H' = upd H T (.tup [.int (i : Nat), x]) ∧ ∀ xs, SqT K H a xs → xs[i]? = some x, fun i H => ∃ xs : List V, SqT K H a xs ∧ xs.length = i⟩
theorem turn_enumT {P : Program} {w : World} {K : PySem.W.Frag} {elts : List Expr} {kk : Nat} {tpos : Pos} (a e it : Addr) (hae : a ≠ e) (hai : a ≠ it) :
    Turn P w K (.Tuple elts kk tpos) (IteT K a) [e, it] e (fun i h => (∃ old, IsEnum h e it ((i : Nat) : Int) old) ∧ h.IsTupleIter it a i ∧ e ≠ it) where
  mem := by simp
  obj := fun i h st b hb => by
    obtain ⟨⟨old, he⟩, ⟨o, ho, hc, hd⟩, _⟩ := st
    have e' : b = e ∨ b = it := by simpa using hb
    rcases e' with z | z
    · rw [z]; exact ⟨_, he, fun v q => nomatch q⟩
    · rw [z]; exact ⟨o, ho, fun v q => by rw [hd] at q; cases q⟩
  keep := fun i h h' st k => let ⟨⟨old, he⟩, hi, hne⟩ := st; ⟨⟨old, k e (by simp) _ he⟩, hi.at fun o q => k it (by simp) o q, hne⟩
  item := by
    intro X hP hw hK hc i pins s σ H E I hf st hg
    subst hP hw hK
    obtain ⟨⟨old, he⟩, hit, hne⟩ := st
    obtain ⟨xs, x, hq, hx⟩ := hg
    obtain ⟨its, rv, p, hz⟩ := I.tuple hq
    obtain ⟨u, hu, ru⟩ := rv.get hx
    have hel : e < s.heap.objs.size := Heap.lt_size he
    have hil : it < s.heap.objs.size := by obtain ⟨_, q, _⟩ := hit; exact Heap.lt_size q
    have hlt : i < its.toArray.size := by simpa using (List.getElem?_eq_some_iff.mp hu).1
    have hea : e ∉ [it, a] := by simp [hne, Ne.symm hae]
    have Dr := Draws.tuple (prog := X.prog) (w := X.w) (A := X.A.in1) (I.ok.hd hc) it a hai its.toArray
    refine wpAny_pyNext_enum_itemD Dr he ⟨hit, p⟩ hlt hne hea fun y h' tk hy ho hst hT hsz hk => ?_
    have hy' : y = u := by
      have z : its.toArray[i]? = some u := by simpa using hu
      rw [hy] at z
      exact Option.some.inj z
    subst hy'
    obtain ⟨hit', _⟩ := hst
    refine ⟨_, rfl, wpAny_letOwnedTupleGo_enum (s := { s with heap := h', toks := tk + 1 }) ho fun h'' he' sb => ?_⟩
    have hT2 : h''.get? s.heap.objs.size = some { cls := .type "tuple", data := .seq #[.int i tk, y] } := (sb.2 _ (Nat.ne_of_gt hel)).trans hT
    have new : ObjOk X.prog X.w (upd H s.heap.objs.size (.tup [.int (i : Nat), x])) h'' s.heap.objs.size (.tup [.int (i : Nat), x]) :=
      ⟨by show 2 ≤ sizeLine; decide, [.int i tk, y], .cons ⟨_, rfl⟩ (.cons ru .nil), ⟨_, hT2, rfl, _, rfl⟩⟩
    have I1 : Inv X pins σ (upd H s.heap.objs.size (.tup [.int (i : Nat), x])) { s with heap := h'', toks := tk + 1 } :=
      I.turnedNew (ch := [e, it]) (fun b ob hb q => (sb.2 b (fun z => hb (by simp [z]))).trans (hk b ob (fun z => hb (by simp [z])) (fun z => hb (by simp [z])) q)) hf (Nat.le_refl _) new
    refine ⟨.ref s.heap.objs.size, _, I1, rfl, ⟨_, x, rfl, I.hok.fresh (Nat.le_refl _), rfl, fun ys hy => by rw [I.tuple_inj hy hq]; exact hx⟩, ⟨⟨y, ?_⟩, hit'.at fun o q => (sb.2 it (Ne.symm hne)).trans q, hne⟩, fun b hb => ?_⟩
    · have e1 : ((i + 1 : Nat) : Int) = (i : Int) + 1 := by omega
      rw [e1]; exact he'
    · have hb' : b < s.heap.objs.size := by
        have e' : b = e ∨ b = it := by simpa using hb
        rcases e' with z | z
        · rw [z]; exact hel
        · rw [z]; exact hil
      rw [upd_ne (Nat.ne_of_lt hb')]
      exact (hf b hb).1
  done := by
    intro X hP hw hK hc i pins s σ H E I hf st hg
    subst hP hw hK
    obtain ⟨⟨old, he⟩, hit, hne⟩ := st
    obtain ⟨xs, hq, hx⟩ := hg
    obtain ⟨its, rv, p, hz⟩ := I.tuple hq
    obtain ⟨f0, f1, f2, f3, f4, f5⟩ := hf it (by simp)
    have hl := rv.length
    have Dr := Draws.tuple (prog := X.prog) (w := X.w) (A := X.A.in1) (I.ok.hd hc) it a hai its.toArray
    have hn : its.toArray.size = i := by simp; omega
    rw [← hn] at hit
    exact wpAny_pyNext_enum_endD Dr he ⟨hit, p⟩ fun h' eb => ⟨rfl, I.turned (t' := s.toks) (fun b o hb q => eb b o hb q) f0 f1 f3 f4 f5⟩
  self := fun A i s Q E st h => let ⟨⟨_, he⟩, _⟩ := st; wpAny_pyIter_enum he h
/-- enumerate of a list, of a tuple -/
def iEnumA (K : PySem.W.Frag) (ta : TA) : L2.TI := fun σ H R => ta σ H fun vs H1 => ∃ a xs, vs = [.ref a] ∧ ((SqL K H1 a xs ∧ R (Ite K a) H1) ∨ (SqT K H1 a xs ∧ R (IteT K a) H1))
theorem pi_enumA {X : Cx} {e : Expr} {ta : TA} {p pos tpos : Pos} {elts : List Expr} {kk : Nat} (hg : Gl X "enumerate") (hm : X.mg "enumerate" = none) (ha : PA X [e] ta) (hs : starEach [e] X.env = [(false, eval e X.env)] := by rfl) :
    PI X (.Tuple elts kk tpos) (.Call (.Name "enumerate" p) [e] [] pos) (iEnumA X.K ta) := by
  refine ⟨fun pins s σ H R I h => ?_⟩
  refine Call_ (ld_blt I hg hm boot_enumerate (PyProof.Rows.callWith_type1 (thn (ha.run pos pins s σ H _ I h) fun us s1 ⟨vs, H1, I1, r1, q1⟩ => ?_) hs rfl))
  obtain ⟨a, xs, ex, q1⟩ := q1
  subst ex
  cases r1 with
  | cons r rr =>
    cases rr
    cases r
    rcases q1 with ⟨hq, q⟩ | ⟨hq, q⟩
    · obtain ⟨its, rv, p', hz⟩ := I1.list hq
      refine call_enumerate_list p'.isList fun h' he hit hsz hk => wpAny_pyIter_enum he ?_
      have I2 : Inv X pins σ H1 { s1 with heap := h' } := I1.kept (t' := s1.toks) hk
      refine ⟨s1.heap.objs.size + 1, [s1.heap.objs.size + 1, s1.heap.objs.size], _, _, H1, rfl, I2, turn_enum a (s1.heap.objs.size + 1) s1.heap.objs.size, ⟨⟨.none, he⟩, hit, Nat.succ_ne_self _⟩, fun b hb => ?_, q⟩
      have e' : b = s1.heap.objs.size + 1 ∨ b = s1.heap.objs.size := by simpa using hb
      have hle : s1.heap.objs.size ≤ b := by
        rcases e' with z | z
        · rw [z]; exact Nat.le_add_right _ _
        · rw [z]; exact Nat.le_refl _
      exact I1.fpOk hle (I1.hok.fresh hle)
    · obtain ⟨its, rv, p', hz⟩ := I1.tuple hq
      have hal : a < s1.heap.objs.size := by obtain ⟨_, q, _⟩ := id p'; exact Heap.lt_size q
      refine call_enumerate_tuple (show s1.heap.IsTuple a its.toArray from p') fun h' he hit hsz hk => wpAny_pyIter_enum he ?_
      have I2 : Inv X pins σ H1 { s1 with heap := h' } := I1.kept (t' := s1.toks) hk
      refine ⟨s1.heap.objs.size + 1, [s1.heap.objs.size + 1, s1.heap.objs.size], _, _, H1, rfl, I2, turn_enumT a (s1.heap.objs.size + 1) s1.heap.objs.size (Nat.ne_of_lt (Nat.lt_succ_of_lt hal)) (Nat.ne_of_lt hal), ⟨⟨.none, he⟩, hit, Nat.succ_ne_self _⟩, fun b hb => ?_, q⟩
      have e' : b = s1.heap.objs.size + 1 ∨ b = s1.heap.objs.size := by simpa using hb
      have hle : s1.heap.objs.size ≤ b := by
        rcases e' with z | z
        · rw [z]; exact Nat.le_add_right _ _
        · rw [z]; exact Nat.le_refl _
      exact I1.fpOk hle (I1.hok.fresh hle)
end Rw

namespace Rw
open PySem PySem.Spec PyProof.Rows L2

/-! ### a def of the text that keeps a promise -/
structure Fd (P : Program) (w : World) (K : PySem.W.Frag) (mg : Str → Option Value) (base : Heap) (x : Str) (n k : Nat) (sp : Sp) : Prop where
  ex : ∃ (f : Addr) (fd : FuncData) (ps : List Str), FnOk P w K mg base CX0 k f fd ps sp ∧ mg x = some (.ref f) ∧ PySem.W.keepIn K (.ref f) = true ∧ Binds K fd ps [] ∧ ps.length = n
/-- the same, called by keywords alone, all of them in order -/
structure FdK (P : Program) (w : World) (K : PySem.W.Frag) (mg : Str → Option Value) (base : Heap) (x : Str) (ps : List Str) (k : Nat) (sp : Sp) : Prop where
  ex : ∃ (f : Addr) (fd : FuncData), FnOk P w K mg base CX0 k f fd ps sp ∧ mg x = some (.ref f) ∧ PySem.W.keepIn K (.ref f) = true ∧
    ∀ (s : Shared) (ws : List Value), ws.length = ps.length → BindsTo s fd ⟨[], ps.zip ws⟩ (ps.zip ws)
def tFn (sp : Sp) (t : TA) : TE := fun σ H Q => t σ H fun vs H1 => sp vs H1 Q E0
section
variable {X : Cx} {x : Str} {n k j : Nat} {sp : Sp} {p pos : Pos} {e : Expr} {es : List Expr} {t : TA} {kws : List Keyword} {ps : List Str}
theorem pe_fn (F : Fd X.prog X.w X.K X.mg X.base x n k sp) (hr : Room j X.A) (hj : k ≤ j) (hg : Gl X x) (ha : PA X (e :: es) t) (hdb : (x == ("__debug__" : Str)) = false := by decide)
    (he : starEach (e :: es) X.env = (false, eval e X.env) :: starEach es X.env := by rfl) (hpl : (backTo pos (starEach es X.env)).any (·.1) = false := by rfl) :
    PE X (.Call (.Name x p) (e :: es) [] pos) (tFn sp t) := by
  obtain ⟨f, fd, ps, G, hm, hk, hb, _⟩ := F.ex
  have q := pe_call (p := p) (pos := pos) G (hr.mono hj) hg hm hk hb .nil pass0 ha hdb he hpl
  refine ⟨fun pins s σ H Q I h => q.run pins s σ H Q I ?_⟩
  show t σ H fun vs H1 => sp (vs ++ []) H1 Q E0
  have e1 : (fun vs H1 => sp (vs ++ []) H1 Q E0) = fun vs H1 => sp vs H1 Q E0 := by
    funext vs H1
    rw [List.append_nil]
  rw [e1]
  exact h
theorem pe_fn0 (F : Fd X.prog X.w X.K X.mg X.base x n k sp) (hr : Room j X.A) (hj : k ≤ j) (hg : Gl X x) (hdb : (x == ("__debug__" : Str)) = false := by decide) :
    PE X (.Call (.Name x p) [] [] pos) (tFn sp tNil) := by
  obtain ⟨f, fd, ps, G, hm, hk, hb, _⟩ := F.ex
  exact pe_call0 (p := p) (pos := pos) G (hr.mono hj) hg hm hk hb .nil pass0 hdb
theorem pe_fnK (F : FdK X.prog X.w X.K X.mg X.base x ps k sp) (hr : Room j X.A) (hj : k ≤ j) (hg : Gl X x) (hkw : PK X kws t)
    (hall : (backToKw pos (keywordEach kws X.env)).all (·.1.isSome) = true := by rfl) (hks : (backToKw pos (keywordEach kws X.env)).filterMap (·.1) = ps := by rfl)
    (hdb : (x == ("__debug__" : Str)) = false := by decide)
    (hpl : ((backTo pos (starEach [] X.env)).any (·.1) || (backToKw pos (keywordEach kws X.env)).any (·.1.isNone)) = false := by rfl) :
    PE X (.Call (.Name x p) [] kws pos) (tFn sp t) := by
  obtain ⟨f, fd, G, hm, hk, hb⟩ := F.ex
  have hr' := hr.mono hj
  refine ⟨fun pins s σ H Q I h => ?_⟩
  refine wpAny_Call_Name_kw (ld_glob I hg hm ?_ hdb)
  refine PySem.W.callWith_KW0 (h₀ := X.base) I.ok.mod.kin hk hall (thn (hkw.run pos pins s σ H _ I h) fun ws s2 ⟨zs, H2, I2, rz, q2⟩ => ⟨I2.kIn, ?_⟩) hpl
  rw [hks]
  have hl : ws.length = ps.length := by rw [← rz.length]; exact G.len _ _ _ _ q2
  refine wpAny_call (codeAny_mono (G.run X.A X.stack s2 H2 ⟨[], ps.zip ws⟩ ws zs Q E0 hr' I2.env0 (hb s2 ws hl) rz q2) fun r s' hq => ?_)
  cases r with
  | error e => exact False.elim hq
  | ok fl =>
    cases fl with
    | ret u => exact I2.after hq
    | next => exact False.elim hq
    | brk => exact False.elim hq
    | cont => exact False.elim hq
end

/-! ### heaps -/
/-- every tuple is kept -/
def Kp (H H' : Hp) : Prop := ∀ a xs, H a = some (.tup xs) → H' a = some (.tup xs)
theorem Kp.refl (H : Hp) : Kp H H := fun _ _ h => h
theorem Kp.trans {H H1 H2 : Hp} (a : Kp H H1) (b : Kp H1 H2) : Kp H H2 := fun c xs h => b c xs (a c xs h)
theorem Kp.of {H H' : Hp} (a : Same H H') : Kp H H' := fun c xs h => a c _ h
theorem Kp.lst {H : Hp} {p : Addr} {xs : List V} {o : HO} (h : H p = some (.lst xs)) : Kp H (upd H p o) := fun c ys q => by
  rw [upd_ne (ne_of q h (by intro z; cases z))]; exact q
theorem Kp.dct {H : Hp} {p : Addr} {xs : List (Key × V)} {o : HO} (h : H p = some (.dK xs)) : Kp H (upd H p o) := fun c ys q => by
  rw [upd_ne (ne_of q h (by intro z; cases z))]; exact q
theorem same_new {H : Hp} {p : Addr} (h : H p = none) (o : HO) : Same H (upd H p o) := fun b u q => by rw [upd_ne (ne_of_none q h)]; exact q
/-- what H does not know may change -/
theorem same_mut {H H' : Hp} {p : Addr} (e : Same H H') (h : H p = none) (o : HO) : Same H (upd H' p o) := fun b u q => by
  rw [upd_ne (ne_of_none q h)]; exact e b u q
/-- what stands at D is out of sight -/
def hide (D : Addr) (H : Hp) : Hp := fun a => if a = D then none else H a
theorem hide_same {D : Addr} {H H' : Hp} (e : Same H H') : Same (hide D H) (hide D H') := fun a o h => by
  unfold hide at h ⊢
  split at h
  · cases h
  · rename_i hne
    rw [if_neg hne]
    exact e a o h
theorem hide_upd {D : Addr} {H : Hp} {o : HO} : hide D (upd H D o) = hide D H := by
  funext a
  unfold hide upd
  split <;> rfl
theorem hide_le {D : Addr} {H : Hp} : Same (hide D H) H := fun a o h => by
  unfold hide at h
  split at h
  · cases h
  · exact h
theorem hide_kp {D : Addr} {H : Hp} {xs : List V} (h : H D = some (.lst xs)) : Kp H (hide D H) := fun a ys q => by
  unfold hide
  rw [if_neg (ne_of q h (by intro z; cases z))]
  exact q
theorem hide_get {D a : Addr} {H : Hp} (h : a ≠ D) : hide D H a = H a := by
  unfold hide
  rw [if_neg h]

/-! ### what stands for what -/
abbrev Rp (α : Type) := Hp → V → α → Prop
def rI : Rp Int := fun _ v i => v = .int i
def rB : Rp Bool := fun _ v b => v = .bl b
/-- a tuple, a list of what R says -/
def TL {α : Type} (R : Rp α) : Rp (List α) := fun H v xs => ∃ a vs, v = .ref a ∧ H a = some (.tup vs) ∧ Paired (R H) vs xs
def LL {α : Type} (R : Rp α) : Rp (List α) := fun H v xs => ∃ a vs, v = .ref a ∧ H a = some (.lst vs) ∧ Paired (R H) vs xs
/-- it leans on tuples alone; on what stands -/
def KM {α : Type} (R : Rp α) : Prop := ∀ H H' v x, Kp H H' → R H v x → R H' v x
def SM {α : Type} (R : Rp α) : Prop := ∀ H H' v x, Same H H' → R H v x → R H' v x
theorem KM.sm {α : Type} {R : Rp α} (h : KM R) : SM R := fun H H' v x e => h H H' v x (Kp.of e)
theorem km_I : KM rI := fun _ _ _ _ _ h => h
theorem km_B : KM rB := fun _ _ _ _ _ h => h
theorem km_TI : KM TI := fun _ _ _ _ e ⟨a, h1, h2⟩ => ⟨a, h1, e _ _ h2⟩
theorem paired_mono {α β : Type} {F G : α → β → Prop} : ∀ {xs : List α} {ys : List β}, (∀ a b, F a b → G a b) → Paired F xs ys → Paired G xs ys
  | _, _, _, .nil => .nil
  | _, _, h, .cons r t => .cons (h _ _ r) (paired_mono h t)
theorem km_TL {α : Type} {R : Rp α} (h : KM R) : KM (TL R) := fun H H' _ _ e ⟨a, vs, h1, h2, h3⟩ => ⟨a, vs, h1, e _ _ h2, paired_mono (fun v x => h H H' v x e) h3⟩
theorem sm_LL {α : Type} {R : Rp α} (h : SM R) : SM (LL R) := fun H H' _ _ e ⟨a, vs, h1, h2, h3⟩ => ⟨a, vs, h1, e _ _ h2, paired_mono (fun v x => h H H' v x e) h3⟩
theorem TI.kp {H H' : Hp} {v : V} {ns : List Int} (h : TI H v ns) (e : Kp H H') : TI H' v ns := km_TI _ _ _ _ e h
theorem TI.sm {H H' : Hp} {v : V} {ns : List Int} (h : TI H v ns) (e : Same H H') : TI H' v ns := km_TI _ _ _ _ (Kp.of e) h
theorem paired_I {H : Hp} : ∀ {vs : List V} {ns : List Int}, Paired (rI H) vs ns → vs = ns.map V.int
  | _, _, .nil => rfl
  | _, _, .cons r t => by
    have r' : _ = V.int _ := r
    rw [r', paired_I t]
    rfl
theorem paired_B {H : Hp} : ∀ {vs : List V} {bs : List Bool}, Paired (rB H) vs bs → vs = bs.map V.bl
  | _, _, .nil => rfl
  | _, _, .cons r t => by
    have r' : _ = V.bl _ := r
    rw [r', paired_B t]
    rfl
theorem paired_map {α β : Type} {F : α → β → Prop} (g : β → α) (h : ∀ b, F (g b) b) : ∀ ys : List β, Paired F (ys.map g) ys
  | [] => .nil
  | y :: ys => .cons (h y) (paired_map g h ys)
theorem paired_len {α β : Type} {F : α → β → Prop} : ∀ {xs : List α} {ys : List β}, Paired F xs ys → xs.length = ys.length
  | _, _, .nil => rfl
  | _, _, .cons _ t => congrArg (· + 1) (paired_len t)
theorem paired_app {α β : Type} {F : α → β → Prop} : ∀ {xs xs' : List α} {ys ys' : List β}, Paired F xs ys → Paired F xs' ys' → Paired F (xs ++ xs') (ys ++ ys')
  | _, _, _, _, .nil, h => h
  | _, _, _, _, .cons r t, h => .cons r (paired_app t h)
theorem paired_at {α β : Type} {F : α → β → Prop} {xs : List α} {ys : List β} (h : Paired F xs ys) {i : Nat} {y : β} (e : ys[i]? = some y) : ∃ x, xs[i]? = some x ∧ F x y := by
  induction h generalizing i with
  | nil => simp at e
  | cons r t ih =>
    cases i with
    | zero =>
      have e' := Option.some.inj e
      rw [← e']
      exact ⟨_, rfl, r⟩
    | succ i => exact ih (by simpa using e)
theorem ti_tl {H : Hp} {v : V} {ns : List Int} : TI H v ns ↔ TL rI H v ns :=
  ⟨fun ⟨a, h1, h2⟩ => ⟨a, _, h1, h2, paired_map V.int (fun _ => rfl) ns⟩, fun ⟨a, vs, h1, h2, h3⟩ => ⟨a, h1, by rw [h2, paired_I h3]⟩⟩

/-! ### what is walked: its turns, and what the target holds then -/
structure Src (J : It) (g : TG) (P : Hp → Prop) (n : Nat) (S : Nat → L2.St → L2.St) : Prop where
  go : ∀ i H, P H → i < n → J.go i H
  yl : ∀ i H x H' σ (k : L2.St → Hp → Prop), P H → i < n → J.yld i H x H' → (∀ H'', Same H H'' → k (S i σ) H'') → g x σ H' k
  st : ∀ H, P H → J.stop n H
theorem getD_of {α : Type} {xs : List α} {i : Nat} {x d : α} (h : xs[i]? = some x) : xs.getD i d = x := by
  rw [List.getD_eq_getElem?_getD, h]
  rfl
theorem getD_int {ns : List Int} {i : Nat} {x : V} (h : (ns.map V.int)[i]? = some x) : V.int (ns.getD i 0) = x := by
  rw [List.getElem?_map] at h
  cases e : ns[i]? with
  | none => rw [e] at h; cases h
  | some n =>
    rw [e] at h
    rw [getD_of e]
    exact Option.some.inj h
theorem src_tup {K : PySem.W.Frag} {a : Addr} {xs : List V} {j : Nat} : Src (Itt K a) (gName j) (fun H => SqT K H a xs) xs.length (fun i σ => σ.set j (some (xs.getD i .non))) where
  go := fun i H h hi => ⟨xs, xs[i], h, List.getElem?_eq_getElem hi⟩
  yl := fun i H x H' σ k h hi y q => by
    obtain ⟨e, y⟩ := y
    subst e
    show k (σ.set j (some x)) _
    rw [← getD_of (d := V.non) (y xs h)]
    exact q _ (Same.refl _)
  st := fun H h => ⟨xs, h, Nat.le_refl _⟩
theorem src_lst {K : PySem.W.Frag} {a : Addr} {xs : List V} {j : Nat} : Src (Itl K a) (gName j) (fun H => SqL K H a xs) xs.length (fun i σ => σ.set j (some (xs.getD i .non))) where
  go := fun i H h hi => ⟨xs, xs[i], h, List.getElem?_eq_getElem hi⟩
  yl := fun i H x H' σ k h hi y q => by
    obtain ⟨e, y⟩ := y
    subst e
    show k (σ.set j (some x)) _
    rw [← getD_of (d := V.non) (y xs h)]
    exact q _ (Same.refl _)
  st := fun H h => ⟨xs, h, Nat.le_refl _⟩
theorem src_tupI {K : PySem.W.Frag} {a : Addr} {ns : List Int} {j : Nat} : Src (Itt K a) (gName j) (fun H => SqT K H a (ns.map V.int)) ns.length (fun i σ => σ.set j (some (.int (ns.getD i 0)))) where
  go := fun i H h hi => ⟨_, V.int ns[i], h, by rw [List.getElem?_map, List.getElem?_eq_getElem hi]; rfl⟩
  yl := fun i H x H' σ k h hi y q => by
    obtain ⟨e, y⟩ := y
    subst e
    show k (σ.set j (some x)) _
    rw [← getD_int (y _ h)]
    exact q _ (Same.refl _)
  st := fun H h => ⟨_, h, by rw [List.length_map]; exact Nat.le_refl _⟩
theorem src_lstI {K : PySem.W.Frag} {a : Addr} {ns : List Int} {j : Nat} : Src (Itl K a) (gName j) (fun H => SqL K H a (ns.map V.int)) ns.length (fun i σ => σ.set j (some (.int (ns.getD i 0)))) where
  go := fun i H h hi => ⟨_, V.int ns[i], h, by rw [List.getElem?_map, List.getElem?_eq_getElem hi]; rfl⟩
  yl := fun i H x H' σ k h hi y q => by
    obtain ⟨e, y⟩ := y
    subst e
    show k (σ.set j (some x)) _
    rw [← getD_int (y _ h)]
    exact q _ (Same.refl _)
  st := fun H h => ⟨_, h, by rw [List.length_map]; exact Nat.le_refl _⟩
theorem src_rng {lo : Int} {n : Nat} {j : Nat} : Src (Itr lo n) (gName j) (fun _ => True) n (fun i σ => σ.set j (some (.int (lo + (i : Nat))))) where
  go := fun i H _ hi => hi
  yl := fun i H x H' σ k _ hi y q => by
    obtain ⟨e, y⟩ := y
    subst e y
    exact q _ (Same.refl _)
  st := fun H _ => Nat.le_refl _
/-- from 0 -/
theorem src_rng0 {n : Nat} {j : Nat} : Src (Itr 0 n) (gName j) (fun _ => True) n (fun i σ => σ.set j (some (.int ((i : Nat) : Int)))) where
  go := fun i H _ hi => hi
  yl := fun i H x H' σ k _ hi y q => by
    obtain ⟨e, y⟩ := y
    subst e y
    have z : (0 : Int) + ((i : Nat) : Int) = ((i : Nat) : Int) := by omega
    rw [z]
    exact q _ (Same.refl _)
  st := fun H _ => Nat.le_refl _
/-- a pair just made, unpacked into two names -/
theorem two_yl {K : PySem.W.Frag} {j1 j2 : Nat} {H : Hp} {T : Addr} {x y : V} {σ : L2.St} {k : L2.St → Hp → Prop} (hT : H T = none) (q : ∀ H'', Same H H'' → k ((σ.set j1 (some x)).set j2 (some y)) H'') :
    gTup K 2 (gCons (gName j1) (gCons (gName j2) gNil)) (.ref T) σ (upd H T (.tup [x, y])) k :=
  ⟨T, [x, y], rfl, .inl (.inl upd_same), rfl, x, [y], rfl, y, [], rfl, rfl, q _ (same_new hT _)⟩
theorem src_enumT {K : PySem.W.Frag} {a : Addr} {xs : List V} {j1 j2 : Nat} : Src (IteT K a) (gTup K 2 (gCons (gName j1) (gCons (gName j2) gNil))) (fun H => SqT K H a xs) xs.length (fun i σ => (σ.set j1 (some (.int (i : Nat)))).set j2 (some (xs.getD i .non))) where
  go := fun i H h hi => ⟨xs, xs[i], h, List.getElem?_eq_getElem hi⟩
  yl := fun i H x H' σ k h hi y q => by
    obtain ⟨T, z, rfl, hT, rfl, y⟩ := y
    refine two_yl hT fun H'' e => ?_
    rw [← getD_of (d := V.non) (y xs h)]
    exact q _ e
  st := fun H h => ⟨xs, h, rfl⟩
theorem src_enumL {K : PySem.W.Frag} {a : Addr} {xs : List V} {j1 j2 : Nat} : Src (Ite K a) (gTup K 2 (gCons (gName j1) (gCons (gName j2) gNil))) (fun H => SqL K H a xs) xs.length (fun i σ => (σ.set j1 (some (.int (i : Nat)))).set j2 (some (xs.getD i .non))) where
  go := fun i H h hi => ⟨xs, xs[i], h, List.getElem?_eq_getElem hi⟩
  yl := fun i H x H' σ k h hi y q => by
    obtain ⟨T, z, rfl, hT, rfl, y⟩ := y
    refine two_yl hT fun H'' e => ?_
    rw [← getD_of (d := V.non) (y xs h)]
    exact q _ e
  st := fun H h => ⟨xs, h, Nat.le_refl _⟩
theorem src_enumTI {K : PySem.W.Frag} {a : Addr} {ns : List Int} {j1 j2 : Nat} : Src (IteT K a) (gTup K 2 (gCons (gName j1) (gCons (gName j2) gNil))) (fun H => SqT K H a (ns.map V.int)) ns.length (fun i σ => (σ.set j1 (some (.int (i : Nat)))).set j2 (some (.int (ns.getD i 0)))) where
  go := fun i H h hi => ⟨_, V.int ns[i], h, by rw [List.getElem?_map, List.getElem?_eq_getElem hi]; rfl⟩
  yl := fun i H x H' σ k h hi y q => by
    obtain ⟨T, z, rfl, hT, rfl, y⟩ := y
    refine two_yl hT fun H'' e => ?_
    rw [← getD_int (y _ h)]
    exact q _ e
  st := fun H h => ⟨_, h, List.length_map _⟩
theorem src_enumLI {K : PySem.W.Frag} {a : Addr} {ns : List Int} {j1 j2 : Nat} : Src (Ite K a) (gTup K 2 (gCons (gName j1) (gCons (gName j2) gNil))) (fun H => SqL K H a (ns.map V.int)) ns.length (fun i σ => (σ.set j1 (some (.int (i : Nat)))).set j2 (some (.int (ns.getD i 0)))) where
  go := fun i H h hi => ⟨_, V.int ns[i], h, by rw [List.getElem?_map, List.getElem?_eq_getElem hi]; rfl⟩
  yl := fun i H x H' σ k h hi y q => by
    obtain ⟨T, z, rfl, hT, rfl, y⟩ := y
    refine two_yl hT fun H'' e => ?_
    rw [← getD_int (y _ h)]
    exact q _ e
  st := fun H h => ⟨_, h, by rw [List.length_map]; exact Nat.le_refl _⟩
theorem src_zipT {K : PySem.W.Frag} {a b : Addr} {xs ys : List V} {j1 j2 : Nat} : Src (RZ.ItzT K a b) (gTup K 2 (gCons (gName j1) (gCons (gName j2) gNil))) (fun H => SqT K H a xs ∧ SqT K H b ys) (min xs.length ys.length)
    (fun i σ => (σ.set j1 (some (xs.getD i .non))).set j2 (some (ys.getD i .non))) where
  go := fun i H h hi => ⟨xs, ys, xs[i]'(by omega), ys[i]'(by omega), h.1, h.2, List.getElem?_eq_getElem _, List.getElem?_eq_getElem _⟩
  yl := fun i H x H' σ k h hi y q => by
    obtain ⟨T, z, u, rfl, hT, rfl, y1, y2⟩ := y
    refine two_yl hT fun H'' e => ?_
    rw [← getD_of (d := V.non) (y1 xs h.1), ← getD_of (d := V.non) (y2 ys h.2)]
    exact q _ e
  st := fun H h => ⟨xs, ys, h.1, h.2, by omega⟩
theorem src_zipL {K : PySem.W.Frag} {a b : Addr} {xs ys : List V} {j1 j2 : Nat} : Src (Itz K a b) (gTup K 2 (gCons (gName j1) (gCons (gName j2) gNil))) (fun H => SqL K H a xs ∧ SqL K H b ys) (min xs.length ys.length)
    (fun i σ => (σ.set j1 (some (xs.getD i .non))).set j2 (some (ys.getD i .non))) where
  go := fun i H h hi => ⟨xs, ys, xs[i]'(by omega), ys[i]'(by omega), h.1, h.2, List.getElem?_eq_getElem _, List.getElem?_eq_getElem _⟩
  yl := fun i H x H' σ k h hi y q => by
    obtain ⟨T, z, u, rfl, hT, rfl, y1, y2⟩ := y
    refine two_yl hT fun H'' e => ?_
    rw [← getD_of (d := V.non) (y1 xs h.1), ← getD_of (d := V.non) (y2 ys h.2)]
    exact q _ e
  st := fun H h => ⟨xs, ys, h.1, h.2, by omega⟩

/-! ### what a comprehension over a list makes -/
theorem fm_map {β : Type} (ns : List Int) (g : Int → Option β) : (List.range ns.length).filterMap (fun i => g (ns.getD i 0)) = ns.filterMap g := by
  induction ns with
  | nil => rfl
  | cons n ns ih =>
    rw [List.length_cons, List.range_succ_eq_map, List.filterMap_cons, List.filterMap_cons, List.filterMap_map]
    have e : (List.range ns.length).filterMap ((fun i => g ((n :: ns).getD i 0)) ∘ Nat.succ) = ns.filterMap g := ih
    rw [e]
    rfl
theorem fm_all {α β : Type} (xs : List α) (d : α) (g : α → Option β) : (List.range xs.length).filterMap (fun i => g (xs.getD i d)) = xs.filterMap g := by
  induction xs with
  | nil => rfl
  | cons n ns ih =>
    rw [List.length_cons, List.range_succ_eq_map, List.filterMap_cons, List.filterMap_cons, List.filterMap_map]
    have e : (List.range ns.length).filterMap ((fun i => g ((n :: ns).getD i d)) ∘ Nat.succ) = ns.filterMap g := ih
    rw [e]
    rfl
theorem fm_some {α β : Type} (xs : List α) (g : α → β) : xs.filterMap (fun x => some (g x)) = xs.map g := by
  induction xs with
  | nil => rfl
  | cons x xs ih => rw [List.filterMap_cons, List.map_cons, ih]
theorem fm_if {α : Type} (xs : List α) (p : α → Bool) : xs.filterMap (fun x => if p x = true then some x else none) = xs.filter p := by
  induction xs with
  | nil => rfl
  | cons x xs ih =>
    rw [List.filterMap_cons, List.filter_cons]
    by_cases h : p x = true
    · rw [if_pos h, if_pos h, ih]
    · rw [if_neg h, if_neg h, ih]

/-- a for over such a thing -/
theorem for_src {J : It} {g : TG} {P : Hp → Prop} {n : Nat} {S : Nat → L2.St → L2.St} {tb : TS} {D : Ends} {σ : L2.St} {H : Hp} (X : Src J g P n S) (Pv : Nat → L2.St → Hp → Prop) (h0 : Pv 0 σ H) (hP : ∀ i σ H, Pv i σ H → P H)
    (hs : ∀ i σ H H', i < n → Pv i σ H → Same H H' → tb { D with nx := Pv (i + 1), ct := Pv (i + 1), bk := D.nx } (S i σ) H') (hd : ∀ σ H, Pv n σ H → D.nx σ H) :
    ∃ W : Nat → Nat → L2.St → Hp → Prop, (∃ m, W 0 m σ H) ∧ ∀ i m σ H, W i m σ H →
      (J.stop i H ∧ D.nx σ H) ∨ (J.go i H ∧ ∃ N : L2.St → Hp → Prop, (∀ σ' H', N σ' H' → ∃ m', m' < m ∧ W (i + 1) m' σ' H') ∧ ∀ x H', J.yld i H x H' → g x σ H' fun σ2 H2 => tb { D with nx := N, ct := N, bk := D.nx } σ2 H2) := by
  refine ⟨fun i m σ H => m = n - i ∧ i ≤ n ∧ Pv i σ H, ⟨n, by simp, Nat.zero_le _, h0⟩, ?_⟩
  rintro i m σ H ⟨rfl, hi, p⟩
  by_cases hlt : i < n
  · exact .inr ⟨X.go i H (hP _ _ _ p) hlt, Pv (i + 1), fun σ' H' p' => ⟨n - (i + 1), by omega, rfl, hlt, p'⟩, fun x H' y => X.yl i H x H' σ _ (hP _ _ _ p) hlt y fun H'' e => hs i σ H H'' hlt p e⟩
  · have e : i = n := by omega
    rw [e] at p ⊢
    exact .inl ⟨X.st H (hP _ _ _ p), hd σ H p⟩

/-- a comprehension over such a thing, whose element and tests change nothing that stood: item i gives f i, if that is some -/
theorem lc_src {β : Type} {R : Rp β} {J : It} {g : TG} {P : Hp → Prop} {n : Nat} {S : Nat → L2.St → L2.St} {tt : TT} {te : TE} {vs : List Nat} {σ : L2.St} {B : Hp} {Q : VK} (X : Src J g P n S) (hR : SM R) (f : Nat → Option β) (hn : n ≤ 100000)
    (hP : ∀ H, Same B H → P H) (hw : ∀ i, i < n → wipe (S i (wipe σ vs)) vs = wipe σ vs)
    (ht : ∀ i, i < n → ∀ H, Same B H → ∀ Q : Bool → Hp → Prop, (∀ H', Same H H' → Q (f i).isSome H') → tt (S i (wipe σ vs)) H Q)
    (he : ∀ i b, i < n → f i = some b → ∀ H D, Same B H → B D = none → (∃ acc, H D = some (.lst acc)) → ∀ Q : VK, (∀ y H', Same H H' → R (hide D H') y b → Q y H') → te (S i (wipe σ vs)) H Q)
    (k : ∀ D ys H, B D = none → Same B H → H D = some (.lst ys) → Paired (R (hide D H)) ys ((List.range n).filterMap f) → Q (.ref D) H) :
    ∀ D, B D = none → ∃ W : Nat → Nat → Hp → Prop, (∃ m, W 0 m (upd B D (.lst []))) ∧ ∀ i m H, W i m H →
      (J.stop i H ∧ Q (.ref D) H) ∨ (J.go i H ∧ ∃ Nx : Hp → Prop, (∀ H', Nx H' → ∃ m', m' < m ∧ W (i + 1) m' H') ∧ ∀ x H', J.yld i H x H' → g x (wipe σ vs) H' fun σ2 H2 => wipe σ2 vs = wipe σ vs ∧ tt σ2 H2 fun b H3 =>
        if b = true then te σ2 H3 fun y H4 => ∃ acc, H4 D = some (.lst acc) ∧ acc.length < sizeLine ∧ Nx (upd H4 D (.lst (acc ++ [y]))) else Nx H3) := by
  intro D hD
  let Pv : Nat → Hp → Prop := fun i H => Same B H ∧ ∃ ys, H D = some (.lst ys) ∧ Paired (R (hide D H)) ys ((List.range i).filterMap f)
  refine ⟨fun i m H => m = n - i ∧ i ≤ n ∧ Pv i H, ⟨n, by simp, Nat.zero_le _, same_new hD _, [], upd_same, .nil⟩, ?_⟩
  rintro i m H ⟨rfl, hi, hS, ys, hY, hp⟩
  by_cases hlt : i < n
  · refine .inr ⟨X.go i H (hP _ hS) hlt, Pv (i + 1), fun H' p' => ⟨n - (i + 1), by omega, rfl, hlt, p'⟩, fun x H' y => X.yl i H x H' _ _ (hP _ hS) hlt y fun H'' e => ⟨hw i hlt, ?_⟩⟩
    refine ht i hlt H'' (hS.trans e) _ fun H3 e3 => ?_
    have e13 : Same H H3 := e.trans e3
    cases hf : f i with
    | none =>
      show Pv (i + 1) H3
      refine ⟨hS.trans e13, ys, e13 _ _ hY, ?_⟩
      rw [List.range_succ, List.filterMap_append]
      simp only [List.filterMap_cons, hf, List.filterMap_nil, List.append_nil]
      exact paired_mono (fun v b => hR _ _ v b (hide_same e13)) hp
    | some b =>
      show te _ H3 _
      refine he i b hlt hf H3 D (hS.trans e13) hD ⟨ys, e13 _ _ hY⟩ _ fun y H4 e4 r => ?_
      have e14 : Same H H4 := e13.trans e4
      refine ⟨ys, e14 _ _ hY, ?_, same_mut (hS.trans e14) hD _, ys ++ [y], upd_same, ?_⟩
      · have h1 := paired_len hp
        have h2 := List.length_filterMap_le f (List.range i)
        rw [List.length_range] at h2
        rw [sizeLine_eq]
        omega
      · rw [hide_upd, List.range_succ, List.filterMap_append]
        simp only [List.filterMap_cons, hf, List.filterMap_nil]
        exact paired_app (paired_mono (fun v b => hR _ _ v b (hide_same e14)) hp) (.cons r .nil)
  · have e : i = n := by omega
    subst e
    exact .inl ⟨X.st H (hP _ hS), k D ys H hD hS hY hp⟩
/-- the same where what is made leans on tuples alone -/
theorem lc_srcK {β : Type} {R : Rp β} {J : It} {g : TG} {P : Hp → Prop} {n : Nat} {S : Nat → L2.St → L2.St} {tt : TT} {te : TE} {vs : List Nat} {σ : L2.St} {B : Hp} {Q : VK} (X : Src J g P n S) (hR : KM R) (f : Nat → Option β) (hn : n ≤ 100000)
    (hP : ∀ H, Same B H → P H) (hw : ∀ i, i < n → wipe (S i (wipe σ vs)) vs = wipe σ vs)
    (ht : ∀ i, i < n → ∀ H, Same B H → ∀ Q : Bool → Hp → Prop, (∀ H', Same H H' → Q (f i).isSome H') → tt (S i (wipe σ vs)) H Q)
    (he : ∀ i b, i < n → f i = some b → ∀ H, Same B H → ∀ Q : VK, (∀ y H', Same H H' → R H' y b → Q y H') → te (S i (wipe σ vs)) H Q)
    (k : ∀ D ys H, B D = none → Same B H → H D = some (.lst ys) → Paired (R H) ys ((List.range n).filterMap f) → Q (.ref D) H) :
    ∀ D, B D = none → ∃ W : Nat → Nat → Hp → Prop, (∃ m, W 0 m (upd B D (.lst []))) ∧ ∀ i m H, W i m H →
      (J.stop i H ∧ Q (.ref D) H) ∨ (J.go i H ∧ ∃ Nx : Hp → Prop, (∀ H', Nx H' → ∃ m', m' < m ∧ W (i + 1) m' H') ∧ ∀ x H', J.yld i H x H' → g x (wipe σ vs) H' fun σ2 H2 => wipe σ2 vs = wipe σ vs ∧ tt σ2 H2 fun b H3 =>
        if b = true then te σ2 H3 fun y H4 => ∃ acc, H4 D = some (.lst acc) ∧ acc.length < sizeLine ∧ Nx (upd H4 D (.lst (acc ++ [y]))) else Nx H3) :=
  lc_src X hR.sm f hn hP hw ht (fun i b hi hf H D hS hD ⟨acc, hacc⟩ Q q => he i b hi hf H hS Q fun y H' e r => q y H' e (hR _ _ _ _ (hide_kp (e _ _ hacc)) r))
    fun D ys H h1 h2 h3 h4 => k D ys H h1 h2 h3 (paired_mono (fun v b => hR.sm _ _ v b hide_le) h4)
end Rw

namespace Rw
open PySem PySem.Spec PyProof.Rows L2

/-! ### the text -/
def topS (i : Nat) : Stmt := PySem.Challenge.pw_bothwheels_k39_whole_rows_each_once_up_t.main.body.getD i (.Pass ⟨0, 0, 0, 0⟩)
/-- a def as it stands behind the top -/
structure Tx (K : PySem.W.Frag) (mg : Str → Option Value) (x : Str) (st : Stmt) (ps : List Str) : Prop where
  ex : ∃ (f : Addr) (fd : FuncData), Fun K x x st f fd ∧ mg x = some (.ref f) ∧ Binds K fd ps [] ∧ ∀ (s : Shared) (ws : List Value), ws.length = ps.length → BindsTo s fd ⟨[], ps.zip ws⟩ (ps.zip ws)
section
variable {P : Program} {w : World} {K : PySem.W.Frag} {mg : Str → Option Value} {base : Heap} {x : Str} {st : Stmt} {N ps : List Str} {k : Nat} {sp : Sp}
theorem Tx.ok (T : Tx K mg x st ps) (S : FnScope N ps (defScope st)) (len : ∀ vs H Q E, sp vs H Q E → vs.length = ps.length)
    (hbody : ∀ (f : Addr) (cdv : Value) (A : Around) (outer : List Env) (s : Shared) (H : Hp) (vs : List V) (Q : VK) (E : XK), Room k (A.deeper (envOfC x (defScope st) s.heap.objs.size f cdv)) → sp vs H Q E →
      ∃ t, PSs (cxOf CX0 P w K mg base N x (defScope st) f cdv A outer s H E).nox (defBody st) t ∧ t { nx := fun _ H' => Q .non H', rt := Q } (start N vs) H) : Fd P w K mg base x ps.length (k + 1) sp := by
  obtain ⟨f, fd, F, hm, hb, _⟩ := T.ex
  exact ⟨f, fd, ps, F.ok S len (hbody f), hm, F.kp, hb, rfl⟩
theorem Tx.okK (T : Tx K mg x st ps) (S : FnScope N ps (defScope st)) (len : ∀ vs H Q E, sp vs H Q E → vs.length = ps.length)
    (hbody : ∀ (f : Addr) (cdv : Value) (A : Around) (outer : List Env) (s : Shared) (H : Hp) (vs : List V) (Q : VK) (E : XK), Room k (A.deeper (envOfC x (defScope st) s.heap.objs.size f cdv)) → sp vs H Q E →
      ∃ t, PSs (cxOf CX0 P w K mg base N x (defScope st) f cdv A outer s H E).nox (defBody st) t ∧ t { nx := fun _ H' => Q .non H', rt := Q } (start N vs) H) : FdK P w K mg base x ps (k + 1) sp := by
  obtain ⟨f, fd, F, hm, _, hb⟩ := T.ex
  exact ⟨f, fd, F.ok S len (hbody f), hm, F.kp, hb⟩
/-- both ways of calling -/
theorem Tx.ok2 (T : Tx K mg x st ps) (S : FnScope N ps (defScope st)) (len : ∀ vs H Q E, sp vs H Q E → vs.length = ps.length)
    (hbody : ∀ (f : Addr) (cdv : Value) (A : Around) (outer : List Env) (s : Shared) (H : Hp) (vs : List V) (Q : VK) (E : XK), Room k (A.deeper (envOfC x (defScope st) s.heap.objs.size f cdv)) → sp vs H Q E →
      ∃ t, PSs (cxOf CX0 P w K mg base N x (defScope st) f cdv A outer s H E).nox (defBody st) t ∧ t { nx := fun _ H' => Q .non H', rt := Q } (start N vs) H) :
    Fd P w K mg base x ps.length (k + 1) sp ∧ FdK P w K mg base x ps (k + 1) sp := ⟨T.ok S len hbody, T.okK S len hbody⟩
end
theorem len_int {ns : List Int} : ns.length = (ns.map V.int).length := (List.length_map _).symm
theorem atI_int {ws : List Int} {i : Int} (h0 : 0 ≤ i) (h1 : i < (ws.length : Int)) : atI (ws.map V.int) i = some (.int (ws.getD i.toNat 0)) := by
  have hlt : i.toNat < ws.length := by omega
  refine at_of (j := i.toNat) (by omega) ?_
  rw [List.getElem?_map, List.getD_eq_getElem?_getD, List.getElem?_eq_getElem hlt]
  rfl
theorem mod_ok (n : Int) {k : Nat} (h : 0 < k) : 0 ≤ n % (k : Int) ∧ n % (k : Int) < (k : Int) := ⟨Int.emod_nonneg _ (by omega), Int.emod_lt_of_pos _ (by omega)⟩
theorem pos_of_ne {α : Type} {l : List α} (h : l ≠ []) : 0 < l.length := by
  cases l with
  | nil => exact absurd rfl h
  | cons a t => exact Nat.succ_pos _
/-! readings that lemmas conclude: kept whole -/
structure SlW (K : PySem.W.Frag) (x : V) (lo hi : Option Int) (H : Hp) (Q : VK) : Prop where h : rSlA K x lo hi H Q
structure CatW (K : PySem.W.Frag) (x y : V) (H : Hp) (Q : VK) : Prop where h : rCatA K x y H Q
structure MinW (K : PySem.W.Frag) (vs : List V) (H : Hp) (Q : VK) : Prop where h : rMinR K vs H Q
structure IsiW (K : PySem.W.Frag) (vs : List V) (H : Hp) (Q : VK) : Prop where h : rIsi K vs H Q
structure IsiTW (K : PySem.W.Frag) (vs : List V) (H : Hp) (Q : VK) : Prop where h : rIsiT K vs H Q
/-- the built-ins that the text calls are the built-ins still -/
structure Bi (mg : Str → Option Value) : Prop where
  len : mg "len" = none
  tuple : mg "tuple" = none
  list : mg "list" = none
  range : mg "range" = none
  sum : mg "sum" = none
  max : mg "max" = none
  min : mg "min" = none
  all : mg "all" = none
  sorted : mg "sorted" = none
  isinstance : mg "isinstance" = none
  int : mg "int" = none
  bool : mg "bool" = none
  str : mg "str" = none
  abs : mg "abs" = none
  divmod : mg "divmod" = none
  enumerate : mg "enumerate" = none
  zip : mg "zip" = none
  set : mg "set" = none
  gcd : mg "gcd" = some (.builtin "math.gcd")
  fact : mg "factorial" = some (.builtin "math.factorial")
section
variable {X : Cx} {a b : Expr} {ta tb : TE} {t : TA} {p pos : Pos}
theorem call_len_n : CallR X (.builtin "len") (fun xs H Q => ∃ p ys n, xs = [.ref p] ∧ (SqL X.K H p ys ∨ SqT X.K H p ys) ∧ n = ys.length ∧ Q (.int (n : Nat)) H) := by
  intro pins s σ H xs us Q I r h
  obtain ⟨p, ys, n, e, hs, rfl, q⟩ := h
  exact call_len_seq pins s σ H xs us Q I r ⟨p, ys, e, hs, q⟩
theorem e_len (K : PySem.W.Frag) (B : Bi X.mg) (ha : PE X a ta) (hg : Gl X "len" := by rfl) (h1 : starEach [a] X.env = (false, eval a X.env) :: starEach [] X.env := by rfl) (hK : X.K = K := by rfl) :
    PE X (.Call (.Name "len" p) [a] [] pos) (tCB (fun xs H Q => ∃ p ys n, xs = [.ref p] ∧ (SqL K H p ys ∨ SqT K H p ys) ∧ n = ys.length ∧ Q (.int (n : Nat)) H) (tCons ta tNil)) := by
  subst hK
  exact pe_callB call_len_n hg B.len PySem.boot_len (pa_cons ha pa_nil h1) (by decide) (by decide) h1 rfl
theorem e_tuple (K : PySem.W.Frag) (B : Bi X.mg) (ha : PE X a ta) (hg : Gl X "tuple" := by rfl) (h1 : starEach [a] X.env = (false, eval a X.env) :: starEach [] X.env := by rfl) (hK : X.K = K := by rfl) :
    PE X (.Call (.Name "tuple" p) [a] [] pos) (tCB (fun xs H Q => ∃ p ys, xs = [.ref p] ∧ ((SqL K H p ys ∧ ∀ l, H l = none → Q (.ref l) (upd H l (.tup ys))) ∨ (SqT K H p ys ∧ Q (.ref p) H))) (tCons ta tNil)) := by
  subst hK
  exact pe_callTy call_tuple_of hg B.tuple (by decide +kernel) (pa_cons ha pa_nil h1) (by decide) (by decide) h1 rfl
theorem e_list (K : PySem.W.Frag) (B : Bi X.mg) (ha : PE X a ta) (hg : Gl X "list" := by rfl) (h1 : starEach [a] X.env = (false, eval a X.env) :: starEach [] X.env := by rfl) (hK : X.K = K := by rfl) :
    PE X (.Call (.Name "list" p) [a] [] pos) (tCB (fun xs H Q => ∃ p ys, xs = [.ref p] ∧ (SqL K H p ys ∨ SqT K H p ys) ∧ ∀ l, H l = none → Q (.ref l) (upd H l (.lst ys))) (tCons ta tNil)) := by
  subst hK
  exact pe_callTy call_list_of hg B.list (by decide +kernel) (pa_cons ha pa_nil h1) (by decide) (by decide) h1 rfl
theorem e_sumT (K : PySem.W.Frag) (B : Bi X.mg) (ha : PE X a ta) (hg : Gl X "sum" := by rfl) (h1 : starEach [a] X.env = (false, eval a X.env) :: starEach [] X.env := by rfl) (hc : X.calm = true := by rfl) (hK : X.K = K := by rfl) :
    PE X (.Call (.Name "sum" p) [a] [] pos) (tCB (rSumT K) (tCons ta tNil)) := by
  subst hK
  exact pe_callB (cr_sumT hc) hg B.sum (by decide +kernel) (pa_cons ha pa_nil h1) (by decide) (by decide) h1 rfl
theorem e_maxT {k : Nat} (K : PySem.W.Frag) (B : Bi X.mg) (hr : Room k X.A) (ha : PE X a ta) (hg : Gl X "max" := by rfl) (h1 : starEach [a] X.env = (false, eval a X.env) :: starEach [] X.env := by rfl) (hc : X.calm = true := by rfl) (hK : X.K = K := by rfl) :
    PE X (.Call (.Name "max" p) [a] [] pos) (tCB (rMaxT K) (tCons ta tNil)) := by
  subst hK
  exact pe_callB (cr_maxT hc hr.units) hg B.max (by decide +kernel) (pa_cons ha pa_nil h1) (by decide) (by decide) h1 rfl
theorem e_minR {k : Nat} (K : PySem.W.Frag) (B : Bi X.mg) (hr : Room k X.A) (ha : PE X a ta) (hg : Gl X "min" := by rfl) (h1 : starEach [a] X.env = (false, eval a X.env) :: starEach [] X.env := by rfl) (hc : X.calm = true := by rfl) (hK : X.K = K := by rfl) :
    PE X (.Call (.Name "min" p) [a] [] pos) (tCB (MinW K) (tCons ta tNil)) := by
  subst hK
  exact pe_callB (fun pins s σ H vs us Q I r h => cr_minR hc hr.units pins s σ H vs us Q I r h.h) hg B.min (by decide +kernel) (pa_cons ha pa_nil h1) (by decide) (by decide) h1 rfl
theorem e_max2 (B : Bi X.mg) (ha : PE X a ta) (hb : PE X b tb) (hg : Gl X "max" := by rfl) (h1 : starEach [a, b] X.env = (false, eval a X.env) :: starEach [b] X.env := by rfl) (h2 : starEach [b] X.env = (false, eval b X.env) :: starEach [] X.env := by rfl) (hc : X.calm = true := by rfl) :
    PE X (.Call (.Name "max" p) [a, b] [] pos) (tCB (fun xs H Q => ∃ i j, xs = [.int i, .int j] ∧ Q (.int (if j > i then j else i)) H) (tCons ta (tCons tb tNil))) :=
  pe_callB (call_max2 hc) hg B.max (by decide +kernel) (pa_cons ha (pa_cons hb pa_nil h2) h1) (by decide) (by decide) h1 (by rw [h2]; rfl)
theorem e_min2 (B : Bi X.mg) (ha : PE X a ta) (hb : PE X b tb) (hg : Gl X "min" := by rfl) (h1 : starEach [a, b] X.env = (false, eval a X.env) :: starEach [b] X.env := by rfl) (h2 : starEach [b] X.env = (false, eval b X.env) :: starEach [] X.env := by rfl) (hc : X.calm = true := by rfl) :
    PE X (.Call (.Name "min" p) [a, b] [] pos) (tCB (fun xs H Q => ∃ i j, xs = [.int i, .int j] ∧ Q (.int (if j < i then j else i)) H) (tCons ta (tCons tb tNil))) :=
  pe_callB (call_min2 hc) hg B.min (by decide +kernel) (pa_cons ha (pa_cons hb pa_nil h2) h1) (by decide) (by decide) h1 (by rw [h2]; rfl)
theorem e_all (K : PySem.W.Frag) (B : Bi X.mg) (ha : PE X a ta) (hg : Gl X "all" := by rfl) (h1 : starEach [a] X.env = (false, eval a X.env) :: starEach [] X.env := by rfl) (hc : X.calm = true := by rfl) (hK : X.K = K := by rfl) :
    PE X (.Call (.Name "all" p) [a] [] pos) (tCB (rAll K) (tCons ta tNil)) := by
  subst hK
  exact pe_callB (cr_all hc) hg B.all (by decide +kernel) (pa_cons ha pa_nil h1) (by decide) (by decide) h1 rfl
theorem e_sortI (K : PySem.W.Frag) (B : Bi X.mg) (ha : PE X a ta) (hg : Gl X "sorted" := by rfl) (h1 : starEach [a] X.env = (false, eval a X.env) :: starEach [] X.env := by rfl) (hK : X.K = K := by rfl) :
    PE X (.Call (.Name "sorted" p) [a] [] pos) (tCB (rSorted K) (tCons ta tNil)) := by
  subst hK
  exact pe_callB cr_sorted hg B.sorted (by decide +kernel) (pa_cons ha pa_nil h1) (by decide) (by decide) h1 rfl
/-- sorted of a list of rows: at least one letter in each, letters below 100 -/
def rSortR (K : PySem.W.Frag) : List V → Hp → VK → Prop := fun vs H Q => ∃ (d : Nat) (B : Int), 1 ≤ d ∧ rSortU K d B vs H Q
theorem e_sortR (K : PySem.W.Frag) (B : Bi X.mg) (ha : PE X a ta) (hg : Gl X "sorted" := by rfl) (h1 : starEach [a] X.env = (false, eval a X.env) :: starEach [] X.env := by rfl) (hK : X.K = K := by rfl) :
    PE X (.Call (.Name "sorted" p) [a] [] pos) (tCB (rSortR K) (tCons ta tNil)) := by
  subst hK
  refine pe_callB (id := "sorted") (fun pins s σ H vs us Q I r h => ?_) hg B.sorted (by decide +kernel) (pa_cons ha pa_nil h1) (by decide) (by decide) h1 rfl
  obtain ⟨d, Bd, hd, h⟩ := h
  exact cr_sortT hd pins s σ H vs us Q I r h
theorem e_int (B : Bi X.mg) (ha : PE X a ta) (hg : Gl X "int" := by rfl) (h1 : starEach [a] X.env = (false, eval a X.env) :: starEach [] X.env := by rfl) :
    PE X (.Call (.Name "int" p) [a] [] pos) (tCB (fun xs H Q => (∃ i, xs = [.int i] ∧ Q (.int i) H) ∨ ∃ k, xs = [.bl k] ∧ Q (.int (if k then 1 else 0)) H) (tCons ta tNil)) :=
  pe_callTy call_int1 hg B.int (by decide +kernel) (pa_cons ha pa_nil h1) (by decide) (by decide) h1 rfl
theorem e_abs (B : Bi X.mg) (ha : PE X a ta) (hg : Gl X "abs" := by rfl) (h1 : starEach [a] X.env = (false, eval a X.env) :: starEach [] X.env := by rfl) :
    PE X (.Call (.Name "abs" p) [a] [] pos) (tCB (fun xs H Q => ∃ i, xs = [.int i] ∧ Q (.int (if i < 0 then -i else i)) H) (tCons ta tNil)) :=
  pe_callB call_abs hg B.abs (by decide +kernel) (pa_cons ha pa_nil h1) (by decide) (by decide) h1 rfl
theorem e_divmod (B : Bi X.mg) (ha : PE X a ta) (hb : PE X b tb) (hg : Gl X "divmod" := by rfl) (h1 : starEach [a, b] X.env = (false, eval a X.env) :: starEach [b] X.env := by rfl) (h2 : starEach [b] X.env = (false, eval b X.env) :: starEach [] X.env := by rfl) :
    PE X (.Call (.Name "divmod" p) [a, b] [] pos) (tCB (fun xs H Q => ∃ i j, xs = [.int i, .int j] ∧ CDiv i j ∧ ∀ p, H p = none → Q (.ref p) (upd H p (.tup [.int (i / j), .int (i % j)]))) (tCons ta (tCons tb tNil))) :=
  pe_callB call_divmod hg B.divmod (by decide +kernel) (pa_cons ha (pa_cons hb pa_nil h2) h1) (by decide) (by decide) h1 (by rw [h2]; rfl)
theorem e_gcd (B : Bi X.mg) (ha : PE X a ta) (hb : PE X b tb) (hg : Gl X "gcd" := by rfl) (h1 : starEach [a, b] X.env = (false, eval a X.env) :: starEach [b] X.env := by rfl) (h2 : starEach [b] X.env = (false, eval b X.env) :: starEach [] X.env := by rfl) :
    PE X (.Call (.Name "gcd" p) [a, b] [] pos) (tCB rGcd (tCons ta (tCons tb tNil))) :=
  pe_callBfun cr_gcd hg B.gcd (pa_cons ha (pa_cons hb pa_nil h2) h1) (by decide) h1 (by rw [h2]; rfl)
theorem e_fact (B : Bi X.mg) (ha : PE X a ta) (hg : Gl X "factorial" := by rfl) (h1 : starEach [a] X.env = (false, eval a X.env) :: starEach [] X.env := by rfl) :
    PE X (.Call (.Name "factorial" p) [a] [] pos) (tCB rFact (tCons ta tNil)) :=
  pe_callBfun cr_fact hg B.fact (pa_cons ha pa_nil h1) (by decide) h1 rfl
/-- isinstance(x, T) -/
theorem e_isi {T : String} {q : Pos} (K : PySem.W.Frag) (B : Bi X.mg) (ha : PE X a ta) (hm : X.mg T = none) (hv : bootBuiltins T = some (.type T)) (hT : Gl X T := by rfl) (hg : Gl X "isinstance" := by rfl)
    (h1 : starEach [a, .Name T q] X.env = (false, eval a X.env) :: starEach [.Name T q] X.env := by rfl) (h2 : starEach [.Name T q] X.env = (false, eval (.Name T q) X.env) :: starEach [] X.env := by rfl)
    (hn : (T : Str) ≠ "__name__" := by decide) (hd : ((T : Str) == ("__debug__" : Str)) = false := by decide) (hK : X.K = K := by rfl) :
    PE X (.Call (.Name "isinstance" p) [a, .Name T q] [] pos) (tCB (IsiW K) (tCons ta (tCons (tC (.ty T)) tNil))) := by
  subst hK
  exact pe_callB (fun pins s σ H vs us Q I r h => call_isi pins s σ H vs us Q I r h.h) hg B.isinstance (by decide +kernel) (pa_cons ha (pa_cons (pe_bltn (v := .ty T) hT hm hv rfl hn hd) pa_nil h2) h1) (by decide) (by decide) h1 (by rw [h2]; rfl)
/-- isinstance(x, (S, T)) -/
theorem e_isiT {S T : String} {q q' qt : Pos} {kt} (K : PySem.W.Frag) (B : Bi X.mg) (ha : PE X a ta) (hm' : X.mg S = none) (hv' : bootBuiltins S = some (.type S)) (hm : X.mg T = none) (hv : bootBuiltins T = some (.type T)) (hS : Gl X S := by rfl) (hT : Gl X T := by rfl) (hg : Gl X "isinstance" := by rfl)
    (h1 : starEach [a, .Tuple [.Name S q', .Name T q] kt qt] X.env = (false, eval a X.env) :: starEach [.Tuple [.Name S q', .Name T q] kt qt] X.env := by rfl)
    (h2 : starEach [.Tuple [.Name S q', .Name T q] kt qt] X.env = (false, eval (.Tuple [.Name S q', .Name T q] kt qt) X.env) :: starEach [] X.env := by rfl)
    (h3 : starEach [.Name S q', .Name T q] X.env = (false, eval (.Name S q') X.env) :: starEach [.Name T q] X.env := by rfl) (h4 : starEach [.Name T q] X.env = (false, eval (.Name T q) X.env) :: starEach [] X.env := by rfl)
    (hn' : (S : Str) ≠ "__name__" := by decide) (hd' : ((S : Str) == ("__debug__" : Str)) = false := by decide) (hn : (T : Str) ≠ "__name__" := by decide) (hd : ((T : Str) == ("__debug__" : Str)) = false := by decide) (hK : X.K = K := by rfl) :
    PE X (.Call (.Name "isinstance" p) [a, .Tuple [.Name S q', .Name T q] kt qt] [] pos) (tCB (IsiTW K) (tCons ta (tCons (tTup (tCons (tC (.ty S)) (tCons (tC (.ty T)) tNil))) tNil))) := by
  subst hK
  exact pe_callB (fun pins s σ H vs us Q I r h => call_isiT pins s σ H vs us Q I r h.h) hg B.isinstance (by decide +kernel)
    (pa_cons ha (pa_cons (pe_tup (pa_cons (pe_bltn (v := .ty S) hS hm' hv' rfl hn' hd') (pa_cons (pe_bltn (v := .ty T) hT hm hv rfl hn hd) pa_nil h4) h3)) pa_nil h2) h1) (by decide) (by decide) h1 (by rw [h2]; rfl)
end
section
variable {X : Cx}
theorem k_ixT (K : PySem.W.Frag) (hK : X.K = K := by rfl) : IxR X (rIxT K) := by subst hK; exact ix_tup
theorem k_ixL (K : PySem.W.Frag) (hK : X.K = K := by rfl) : IxR X (rIxL K) := by subst hK; exact ix_list
theorem k_slT (K : PySem.W.Frag) (hK : X.K = K := by rfl) : SlR X (SlW K) := by
  subst hK
  exact fun pins s σ H x v vl vu lo hi sl Q I rx hs pl pu h => sl_tupA pins s σ H x v vl vu lo hi sl Q I rx hs pl pu h.h
theorem k_slL (K : PySem.W.Frag) (hK : X.K = K := by rfl) : SlR X (rSlL K) := by subst hK; exact sl_list
theorem k_catT (K : PySem.W.Frag) (hK : X.K = K := by rfl) : OpR X (binaryOp .Add) (CatW K) := by
  subst hK
  exact fun pins s σ H x y v u Q I rx ry h => op_catA pins s σ H x y v u Q I rx ry h.h
theorem k_in (K : PySem.W.Frag) (hK : X.K = K := by rfl) : OpR X (compareOp .In) (rIn K false) := by subst hK; exact op_in_seq
theorem k_eqD (K : PySem.W.Frag) {k : Nat} (hr : Room k X.A) (hK : X.K = K := by rfl) : OpR X (compareOp .Eq) (rEqD K) := by subst hK; exact op_eqD hr.units
theorem k_neD (K : PySem.W.Frag) {k : Nat} (hr : Room k X.A) (hK : X.K = K := by rfl) : OpR X (compareOp .NotEq) (rNeD K) := by subst hK; exact op_neD hr.units
theorem k_ltT (K : PySem.W.Frag) {k : Nat} (hr : Room k X.A) (hK : X.K = K := by rfl) : OpR X (compareOp .Lt) (rLtT K) := by subst hK; exact op_ltT hr.units0
theorem k_cnt (K : PySem.W.Frag) (hK : X.K = K := by rfl) : MtR X "tuple.count" (rCntT K) := by subst hK; exact mt_tcount
theorem k_getL (K : PySem.W.Frag) (hK : X.K = K := by rfl) : PGet X (rGetL K) := by subst hK; exact pg_list
section
variable {tg e e2 : Expr} {te : TE} {ta t : TA} {p pos tpos : Pos} {elts es : List Expr} {kk : Nat}
theorem k_list (K : PySem.W.Frag) (he : PE X e te) (hK : X.K = K := by rfl) : PI X tg e (iList K te) := by subst hK; exact pi_list he
theorem k_tup (K : PySem.W.Frag) (he : PE X e te) (hK : X.K = K := by rfl) : PI X tg e (iTup K te) := by subst hK; exact pi_tup he
theorem k_enum (K : PySem.W.Frag) (B : Bi X.mg) (ha : PE X e te) (hg : Gl X "enumerate" := by rfl) (h1 : starEach [e] X.env = (false, eval e X.env) :: starEach [] X.env := by rfl) (hK : X.K = K := by rfl) :
    PI X (.Tuple elts kk tpos) (.Call (.Name "enumerate" p) [e] [] pos) (iEnumA K (tCons te tNil)) := by subst hK; exact pi_enumA hg B.enumerate (pa_cons ha pa_nil h1) h1
theorem k_zip (K : PySem.W.Frag) (B : Bi X.mg) (ha : PA X [e, e2] ta) (hg : Gl X "zip" := by rfl) (hs : starEach [e, e2] X.env = (false, eval e X.env) :: starEach [e2] X.env := by rfl) (hpl : (backTo pos (starEach [e2] X.env)).any (·.1) = false := by rfl) (hK : X.K = K := by rfl) :
    PI X (.Tuple elts kk tpos) (.Call (.Name "zip" p) [e, e2] [] pos) (RZ.iZipA K ta) := by subst hK; exact RZ.pi_zipA hg B.zip ha hs hpl
theorem k_tg (K : PySem.W.Frag) (n : Nat) {t : TGs} (hc : X.calm = true) (h : PGs X es t) (hn : (assignEach es X.env).length = n := by rfl) (hst : (assignEach es X.env).findIdx? (·.1) = none := by rfl) (hK : X.K = K := by rfl) : PG X (.Tuple es kk pos) (gTup K n t) := by subst hK; exact pg_tup hc h hn hst
theorem k_star (K : PySem.W.Frag) (he : PE X e te) (hr : PA X es t) (hs : starEach (.Starred e p :: es) X.env = (true, eval e X.env) :: starEach es X.env := by rfl) (hK : X.K = K := by rfl) : PA X (.Starred e p :: es) (StX.tStar K te t) := by subst hK; exact StX.pa_star he hr hs
theorem k_bm (K : PySem.W.Frag) {T id : String} {name : Str} {r : V → List V → Hp → VK → Prop} {o : Expr} {to : TE} {apos cpos : Pos} (pa : PlainAttrs T) (slot : Slot T name id) (hty : typeOf (.builtin id) = pure (.type "method_descriptor")) (hm : MtR X id r) (ho : PE X o to) (ha : PA X (e :: es) t)
    (hbase : attributeBase o name X.env (eval o X.env) = eval o X.env := by rfl)
    (hfew : ((backTo cpos (starEach (e :: es) X.env)).all (fun x => !x.1) && (backToKw cpos (keywordEach [] X.env)).all (fun x => x.1.isSome)
      && decide ((e :: es).length + ([] : List Keyword).length + (if ([] : List Keyword).isEmpty then 0 else 1) < 30)) = true := by rfl)
    (hline : (apos.endLine == cpos.line) = true := by rfl) (hs : starEach (e :: es) X.env = (false, eval e X.env) :: starEach es X.env := by rfl) (hplain : (backTo cpos (starEach es X.env)).any (·.1) = false := by rfl) (hK : X.K = K := by rfl) :
    PE X (.Call (.Attribute o name apos) (e :: es) [] cpos) (tBM K T r to t) := by subst hK; exact pe_bm pa slot hty hm ho ha hbase hfew hline hs hplain
end
end
end Rw

namespace Rw
open PySem PySem.Spec PyProof.Rows L2

/-! ### data of any depth -/
mutual
def Dr (H : Hp) : PyData → V → Prop
  | .none, v => v = .non
  | .bool b, v => v = .bl b
  | .int i, v => v = .int i
  | .str x, v => v = .str x
  | .list ds, v => ∃ a vs, v = .ref a ∧ H a = some (.lst vs) ∧ DrAll H ds vs
  | .tuple ds, v => ∃ a vs, v = .ref a ∧ H a = some (.tup vs) ∧ DrAll H ds vs
  | .dict _, _ => False
def DrAll (H : Hp) : List PyData → List V → Prop
  | [], vs => vs = []
  | d :: ds, vs => ∃ v r, vs = v :: r ∧ Dr H d v ∧ DrAll H ds r
end
mutual
theorem Dr.sm {H H' : Hp} (e : Same H H') : ∀ (d : PyData) (v : V), Dr H d v → Dr H' d v
  | .none, _, h => h
  | .bool _, _, h => h
  | .int _, _, h => h
  | .str _, _, h => h
  | .list ds, _, h => by
    obtain ⟨a, vs, rfl, ha, hd⟩ := h
    exact ⟨a, vs, rfl, e _ _ ha, DrAll.sm e ds vs hd⟩
  | .tuple ds, _, h => by
    obtain ⟨a, vs, rfl, ha, hd⟩ := h
    exact ⟨a, vs, rfl, e _ _ ha, DrAll.sm e ds vs hd⟩
  | .dict _, _, h => h
theorem DrAll.sm {H H' : Hp} (e : Same H H') : ∀ (ds : List PyData) (vs : List V), DrAll H ds vs → DrAll H' ds vs
  | [], _, h => h
  | d :: ds, _, h => by
    obtain ⟨v, r, rfl, h1, h2⟩ := h
    exact ⟨v, r, rfl, Dr.sm e d v h1, DrAll.sm e ds r h2⟩
end
mutual
/-- no list in it -/
def noL : PyData → Bool
  | .list _ => false
  | .tuple ds => noLs ds
  | .dict _ => false
  | .none => true
  | .bool _ => true
  | .int _ => true
  | .str _ => true
def noLs : List PyData → Bool
  | [] => true
  | d :: ds => noL d && noLs ds
end
mutual
theorem Dr.kp {H H' : Hp} (e : Kp H H') : ∀ (d : PyData) (v : V), noL d = true → Dr H d v → Dr H' d v
  | .none, _, _, h => h
  | .bool _, _, _, h => h
  | .int _, _, _, h => h
  | .str _, _, _, h => h
  | .list ds, _, n, h => by cases n
  | .tuple ds, _, n, h => by
    obtain ⟨a, vs, rfl, ha, hd⟩ := h
    exact ⟨a, vs, rfl, e _ _ ha, DrAll.kp e ds vs n hd⟩
  | .dict _, _, n, h => by cases n
theorem DrAll.kp {H H' : Hp} (e : Kp H H') : ∀ (ds : List PyData) (vs : List V), noLs ds = true → DrAll H ds vs → DrAll H' ds vs
  | [], _, _, h => h
  | d :: ds, _, n, h => by
    obtain ⟨v, r, rfl, h1, h2⟩ := h
    have n' : noL d = true ∧ noLs ds = true := by simpa [noLs] using n
    exact ⟨v, r, rfl, Dr.kp e d v n'.1 h1, DrAll.kp e ds r n'.2 h2⟩
end
theorem drAll_len {H : Hp} : ∀ {ds : List PyData} {vs : List V}, DrAll H ds vs → vs.length = ds.length
  | [], _, h => by rw [show _ = [] from h]; rfl
  | d :: ds, _, h => by
    obtain ⟨v, r, rfl, h1, h2⟩ := h
    exact congrArg (· + 1) (drAll_len h2)
theorem drAll_at {H : Hp} : ∀ {ds : List PyData} {vs : List V} {i : Nat} {d : PyData}, DrAll H ds vs → ds[i]? = some d → ∃ v, vs[i]? = some v ∧ Dr H d v
  | [], _, i, d, _, e => by simp at e
  | d :: ds, _, 0, d', h, e => by
    obtain ⟨v, r, rfl, h1, h2⟩ := h
    have e' := Option.some.inj e
    rw [← e']
    exact ⟨v, rfl, h1⟩
  | d :: ds, _, i + 1, d', h, e => by
    obtain ⟨v, r, rfl, h1, h2⟩ := h
    exact drAll_at (i := i) h2 (by simpa using e)
theorem drAll_paired {H : Hp} : ∀ {ds : List PyData} {vs : List V}, Paired (fun v d => Dr H d v) vs ds → DrAll H ds vs
  | _, _, .nil => rfl
  | _, _, .cons r t => ⟨_, _, rfl, r, drAll_paired t⟩
theorem paired_drAll {H : Hp} : ∀ {ds : List PyData} {vs : List V}, DrAll H ds vs → Paired (fun v d => Dr H d v) vs ds
  | [], _, h => by rw [show _ = [] from h]; exact .nil
  | d :: ds, _, h => by
    obtain ⟨v, r, rfl, h1, h2⟩ := h
    exact .cons h1 (paired_drAll h2)
/-- as what stands for it -/
def rD : Rp PyData := fun H v d => Dr H d v
theorem sm_D : SM rD := fun _ _ v d e h => Dr.sm e d v h
mutual
theorem Dr.dp {K : PySem.W.Frag} {H : Hp} : ∀ (d : PyData) (v : V), Dr H d v → Dp K H v d
  | .none, _, h => by rw [show _ = V.non from h]; exact .non
  | .bool b, _, h => by rw [show _ = V.bl b from h]; exact .bl b
  | .int i, _, h => by rw [show _ = V.int i from h]; exact .int i
  | .str x, _, h => by rw [show _ = V.str x from h]; exact .str x
  | .list ds, _, h => by
    obtain ⟨a, vs, rfl, ha, hd⟩ := h
    exact .lst (SqL.of ha) (DrAll.dp ds vs hd)
  | .tuple ds, _, h => by
    obtain ⟨a, vs, rfl, ha, hd⟩ := h
    exact .tup (SqT.of ha) (DrAll.dp ds vs hd)
  | .dict _, _, h => by cases h
theorem DrAll.dp {K : PySem.W.Frag} {H : Hp} : ∀ (ds : List PyData) (vs : List V), DrAll H ds vs → DpAll K H vs ds
  | [], _, h => by rw [show _ = [] from h]; exact .nil
  | d :: ds, _, h => by
    obtain ⟨v, r, rfl, h1, h2⟩ := h
    exact .cons (Dr.dp d v h1) (DrAll.dp ds r h2)
end
/-! ### rows as data -/
theorem drAll_ints {H : Hp} : ∀ (ns : List Int) (vs : List V), DrAll H (ns.map PyData.int) vs ↔ vs = ns.map V.int
  | [], vs => Iff.rfl
  | n :: ns, vs => by
    constructor
    · rintro ⟨v, r, rfl, h1, h2⟩
      rw [(drAll_ints ns r).mp h2, show v = V.int n from h1]
      rfl
    · intro h
      exact ⟨.int n, ns.map V.int, h, rfl, (drAll_ints ns _).mpr rfl⟩
theorem dr_TI {H : Hp} {v : V} {ns : List Int} : Dr H (tI ns) v ↔ TI H v ns := by
  constructor
  · rintro ⟨a, vs, rfl, ha, hd⟩
    rw [(drAll_ints ns vs).mp hd] at ha
    exact ⟨a, rfl, ha⟩
  · rintro ⟨a, rfl, ha⟩
    exact ⟨a, _, rfl, ha, (drAll_ints ns _).mpr rfl⟩
theorem drAll_rows {H : Hp} : ∀ {rs : List (List Int)} {vs : List V}, Paired (TI H) vs rs ↔ DrAll H (rs.map tI) vs
  | [], vs => ⟨fun h => by cases h; rfl, fun h => by rw [show vs = [] from h]; exact .nil⟩
  | r :: rs, vs => by
    constructor
    · intro h
      cases h with
      | cons a t => exact ⟨_, _, rfl, dr_TI.mpr a, drAll_rows.mp t⟩
    · rintro ⟨v, r', rfl, h1, h2⟩
      exact .cons (dr_TI.mp h1) (drAll_rows.mpr h2)
/-- a tuple of rows, a list of rows, as data -/
def tR (rs : List (List Int)) : PyData := .tuple (rs.map tI)
def lR (rs : List (List Int)) : PyData := .list (rs.map tI)
def lI (ns : List Int) : PyData := .list (ns.map PyData.int)
theorem dr_TT {H : Hp} {v : V} {rs : List (List Int)} : Dr H (tR rs) v ↔ TL TI H v rs := by
  constructor
  · rintro ⟨a, vs, rfl, ha, hd⟩
    exact ⟨a, vs, rfl, ha, drAll_rows.mpr hd⟩
  · rintro ⟨a, vs, rfl, ha, hd⟩
    exact ⟨a, vs, rfl, ha, drAll_rows.mp hd⟩
theorem dr_LT {H : Hp} {v : V} {rs : List (List Int)} : Dr H (lR rs) v ↔ LL TI H v rs := by
  constructor
  · rintro ⟨a, vs, rfl, ha, hd⟩
    exact ⟨a, vs, rfl, ha, drAll_rows.mpr hd⟩
  · rintro ⟨a, vs, rfl, ha, hd⟩
    exact ⟨a, vs, rfl, ha, drAll_rows.mp hd⟩

/-! ### isinstance -/
def tyD : PyData → String
  | .none => "NoneType"
  | .bool _ => "bool"
  | .int _ => "int"
  | .str _ => "str"
  | .list _ => "list"
  | .tuple _ => "tuple"
  | .dict _ => "dict"
theorem Dr.ty {K : PySem.W.Frag} {H : Hp} : ∀ {d : PyData} {v : V}, Dr H d v → TyX K H v (.type (tyD d))
  | .none, _, h => by rw [show _ = V.non from h]; exact .base .non
  | .bool b, _, h => by rw [show _ = V.bl b from h]; exact .base (.bl b)
  | .int i, _, h => by rw [show _ = V.int i from h]; exact .base (.int i)
  | .str x, _, h => by rw [show _ = V.str x from h]; exact .base (.str x)
  | .list ds, _, h => by
    obtain ⟨a, vs, rfl, ha, hd⟩ := h
    exact .base (.lst ha)
  | .tuple ds, _, h => by
    obtain ⟨a, vs, rfl, ha, hd⟩ := h
    exact .base (.tup ha)
  | .dict _, _, h => h.elim
def isInt : PyData → Bool | .int _ => true | .bool _ => true | _ => false
def isBool : PyData → Bool | .bool _ => true | _ => false
def isTup : PyData → Bool | .tuple _ => true | _ => false
def isLst : PyData → Bool | .list _ => true | _ => false
def isStr : PyData → Bool | .str _ => true | _ => false
theorem kit_int (K : PySem.W.Frag) (d : PyData) : PySem.W.kitOne K (.type (tyD d)) (.type "int") = some (isInt d) := by
  cases d with
  | none => exact kit_ty (show kitB "NoneType" "int" = some false by decide +kernel)
  | bool _ => exact kit_ty (show kitB "bool" "int" = some true by decide +kernel)
  | int _ => exact kit_ty (show kitB "int" "int" = some true by decide +kernel)
  | str _ => exact kit_ty (show kitB "str" "int" = some false by decide +kernel)
  | list _ => exact kit_ty (show kitB "list" "int" = some false by decide +kernel)
  | tuple _ => exact kit_ty (show kitB "tuple" "int" = some false by decide +kernel)
  | dict _ => exact kit_ty (show kitB "dict" "int" = some false by decide +kernel)
theorem kit_bool (K : PySem.W.Frag) (d : PyData) : PySem.W.kitOne K (.type (tyD d)) (.type "bool") = some (isBool d) := by
  cases d with
  | none => exact kit_ty (show kitB "NoneType" "bool" = some false by decide +kernel)
  | bool _ => exact kit_ty (show kitB "bool" "bool" = some true by decide +kernel)
  | int _ => exact kit_ty (show kitB "int" "bool" = some false by decide +kernel)
  | str _ => exact kit_ty (show kitB "str" "bool" = some false by decide +kernel)
  | list _ => exact kit_ty (show kitB "list" "bool" = some false by decide +kernel)
  | tuple _ => exact kit_ty (show kitB "tuple" "bool" = some false by decide +kernel)
  | dict _ => exact kit_ty (show kitB "dict" "bool" = some false by decide +kernel)
theorem kit_tuple (K : PySem.W.Frag) (d : PyData) : PySem.W.kitOne K (.type (tyD d)) (.type "tuple") = some (isTup d) := by
  cases d with
  | none => exact kit_ty (show kitB "NoneType" "tuple" = some false by decide +kernel)
  | bool _ => exact kit_ty (show kitB "bool" "tuple" = some false by decide +kernel)
  | int _ => exact kit_ty (show kitB "int" "tuple" = some false by decide +kernel)
  | str _ => exact kit_ty (show kitB "str" "tuple" = some false by decide +kernel)
  | list _ => exact kit_ty (show kitB "list" "tuple" = some false by decide +kernel)
  | tuple _ => exact kit_ty (show kitB "tuple" "tuple" = some true by decide +kernel)
  | dict _ => exact kit_ty (show kitB "dict" "tuple" = some false by decide +kernel)
theorem kit_list (K : PySem.W.Frag) (d : PyData) : PySem.W.kitOne K (.type (tyD d)) (.type "list") = some (isLst d) := by
  cases d with
  | none => exact kit_ty (show kitB "NoneType" "list" = some false by decide +kernel)
  | bool _ => exact kit_ty (show kitB "bool" "list" = some false by decide +kernel)
  | int _ => exact kit_ty (show kitB "int" "list" = some false by decide +kernel)
  | str _ => exact kit_ty (show kitB "str" "list" = some false by decide +kernel)
  | list _ => exact kit_ty (show kitB "list" "list" = some true by decide +kernel)
  | tuple _ => exact kit_ty (show kitB "tuple" "list" = some false by decide +kernel)
  | dict _ => exact kit_ty (show kitB "dict" "list" = some false by decide +kernel)
theorem kit_str (K : PySem.W.Frag) (d : PyData) : PySem.W.kitOne K (.type (tyD d)) (.type "str") = some (isStr d) := by
  cases d with
  | none => exact kit_ty (show kitB "NoneType" "str" = some false by decide +kernel)
  | bool _ => exact kit_ty (show kitB "bool" "str" = some false by decide +kernel)
  | int _ => exact kit_ty (show kitB "int" "str" = some false by decide +kernel)
  | str _ => exact kit_ty (show kitB "str" "str" = some true by decide +kernel)
  | list _ => exact kit_ty (show kitB "list" "str" = some false by decide +kernel)
  | tuple _ => exact kit_ty (show kitB "tuple" "str" = some false by decide +kernel)
  | dict _ => exact kit_ty (show kitB "dict" "str" = some false by decide +kernel)
theorem kit_two {K : PySem.W.Frag} {d : PyData} {S T : String} {b c : Bool} (h1 : PySem.W.kitOne K (.type (tyD d)) (.type S) = some b) (h2 : PySem.W.kitOne K (.type (tyD d)) (.type T) = some c) :
    PySem.W.kitAny K (.type (tyD d)) [.type S, .type T] = some (b || c) := by
  refine kitAny_cons h1 (fun hb => ?_) fun hb => by rw [hb]; rfl
  rw [hb]
  exact kitAny_cons h2 (fun hc => by rw [hc]; rfl) fun hc => by rw [hc]; rfl
/-- what isinstance(x, T) asks, given what x stands for -/
theorem isi_ok {K : PySem.W.Frag} {H : Hp} {v : V} {d : PyData} {T : String} {b : Bool} {Q : VK} (h : Dr H d v) (hk : PySem.W.kitOne K (.type (tyD d)) (.type T) = some b) (q : Q (.bl b) H) : IsiW K [v, .ty T] H Q :=
  ⟨v, .ty T, _, _, b, rfl, .ty T, h.ty, hk, q⟩
theorem isiT_ok {K : PySem.W.Frag} {H : Hp} {v : V} {d : PyData} {S T : String} {b c : Bool} {t : Addr} {Q : VK} (h : Dr H d v) (ht : H t = some (.tup [.ty S, .ty T])) (h1 : PySem.W.kitOne K (.type (tyD d)) (.type S) = some b) (h2 : PySem.W.kitOne K (.type (tyD d)) (.type T) = some c)
    (q : Q (.bl (b || c)) H) : IsiTW K [v, .ref t] H Q :=
  ⟨v, t, _, _, _, _, rfl, ht, .cons (.ty S) (.cons (.ty T) .nil), h.ty, kit_two h1 h2, q⟩

/-! ### len(set(t)), t a tuple of ints -/
def tLenSet (K : PySem.W.Frag) (ta : TE) : TE := fun σ H Q => ta σ H fun x H1 => ∃ (l : Addr) (ns : List Int), x = .ref l ∧ SqT K H1 l (ns.map V.int) ∧ ns.length ≤ 4000 ∧
  ∀ ks : List Int, ks.Nodup → (∀ k, k ∈ ks ↔ k ∈ ns) → Q (.int (ks.length : Nat)) H1
theorem lenset {X : Cx} {a : Expr} {ta : TE} {p p2 q pos : Pos} (B : Bi X.mg) (ha : PE X a ta) (hg : Gl X "len" := by rfl) (hg2 : Gl X "set" := by rfl) (hc : X.calm = true := by rfl)
    (na : starEach [a] X.env = (false, eval a X.env) :: starEach [] X.env := by rfl) : PE X (.Call (.Name "len" p) [.Call (.Name "set" p2) [a] [] q] [] pos) (tLenSet X.K ta) := by
  refine ⟨fun pins s σ H Q I h => ?_⟩
  refine Call_ (ld_blt I hg B.len boot_len ?_)
  refine PyProof.Rows.callWith_builtin1 (PyProof.Rows.args_cons ?_ rfl) rfl rfl
  refine Call_ (ld_blt I hg2 B.set (show bootBuiltins "set" = some (.type "set") by decide +kernel) ?_)
  refine PyProof.Rows.callWith_type1 (PyProof.Rows.args_cons (thn (ha.run pins s σ H _ I h) fun v s1 ⟨x, H1, I1, r1, q1⟩ => PyProof.Rows.args_nil ?_) na) na rfl
  obtain ⟨l, ns, rfl, hq, hl, q1⟩ := q1
  cases r1
  obtain ⟨its, r, pl, hz⟩ := I1.tuple hq
  refine call_set_tupI ns (I1.ok.hd hc) pl (by simpa using r.ints) (by unfold scanBound; omega) fun h' tk c hS _ hk => ?_
  refine PyProof.Rows.args_nil ?_
  obtain ⟨o, es, ep, t, ho, hex, hd, _, hnd, hm, hsb, hf, hn, _⟩ := hS
  unfold scanBound at hsb
  have I2 : Inv X pins σ H1 { s1 with heap := h', toks := tk } := I1.kept hk
  have e1 : (es.toList.map keyOf).length = es.size := by rw [List.length_map, Array.length_toList]
  have q2 := q1 (es.toList.map keyOf) hnd fun k => by rw [← hm k]; simp
  rw [e1] at q2
  exact call_len_set ho hex hd hf (by omega) ⟨.int es.size, H1, I2.tok _, ⟨_, rfl⟩, q2⟩
end Rw

namespace Rw
open PySem PySem.Spec PyProof.Rows L2

theorem ifs_some {α : Type} {p : Bool} {x : α} {Q : Bool → Hp → Prop} {H : Hp} : Q (if p = true then some x else none).isSome H ↔ Q p H := by
  cases p <;> exact Iff.rfl
theorem if_some {α : Type} {p : Bool} {x b : α} (h : (if p = true then some x else none) = some b) : b = x := by
  cases p with
  | false => cases h
  | true => exact (Option.some.inj h).symm
/-! ### readings of loops and comprehensions that ask by parts -/
def iMono (wi : L2.TI) : L2.TI := fun σ H R => ∃ R' : It → Hp → Prop, wi σ H R' ∧ ∀ J B, R' J B → R J B
theorem pi_mono {X : Cx} {tg iter : Expr} {wi : L2.TI} (h : PI X tg iter wi) : PI X tg iter (iMono wi) := by
  refine ⟨fun pins s σ H R I q => ?_⟩
  obtain ⟨R', h1, h2⟩ := q
  refine thn (h.run pins s σ H R' I h1) fun v s1 q1 => thn q1 fun itv s2 q2 => ?_
  obtain ⟨it, fp, tn, J, H', e, I', T, st, fr, r⟩ := q2
  exact ⟨it, fp, tn, J, H', e, I', T, st, fr, h2 J H' r⟩
/-- a comprehension: what is walked (Src), what each turn gives (f), that the tests and the element give it, and what follows -/
def tLcS (wi : L2.TI) (g : TG) (tt : TT) (te : TE) (vs : List Nat) : TE := fun σ H Q => wi σ H fun J B => ∃ (β : Type) (R : Rp β) (P : Hp → Prop) (n : Nat) (S : Nat → L2.St → L2.St) (f : Nat → Option β), Src J g P n S ∧ n ≤ 100000 ∧
  (∀ H, Same B H → P H) ∧ (∀ i, i < n → wipe (S i (wipe σ vs)) vs = wipe σ vs) ∧
  (∀ i, i < n → ∀ H, Same B H → ∀ Q : Bool → Hp → Prop, (∀ H', Same H H' → Q (f i).isSome H') → tt (S i (wipe σ vs)) H Q) ∧
  ((SM R ∧ ∀ i b, i < n → f i = some b → ∀ H D, Same B H → B D = none → (∃ acc, H D = some (.lst acc)) → ∀ Q : VK, (∀ y H', Same H H' → R (hide D H') y b → Q y H') → te (S i (wipe σ vs)) H Q) ∨
   (KM R ∧ ∀ i b, i < n → f i = some b → ∀ H, Same B H → ∀ Q : VK, (∀ y H', Same H H' → R H' y b → Q y H') → te (S i (wipe σ vs)) H Q)) ∧
  ∀ D ys H, B D = none → Same B H → H D = some (.lst ys) → Paired (R (hide D H)) ys ((List.range n).filterMap f) → Paired (R H) ys ((List.range n).filterMap f) → Q (.ref D) H
theorem tLcS.to {wi : L2.TI} {g : TG} {tt : TT} {te : TE} {vs : List Nat} {σ : L2.St} {H : Hp} {Q : VK} (h : tLcS wi g tt te vs σ H Q) : tLc (iMono wi) g tt te vs σ H Q := by
  refine ⟨_, h, fun J B q => ?_⟩
  obtain ⟨β, R, P, n, S, f, hS, hn, hP, hw, ht, he, k⟩ := q
  rcases he with ⟨hR, he⟩ | ⟨hR, he⟩
  · exact lc_src hS hR f hn hP hw ht he fun D ys H h1 h2 h3 h4 => k D ys H h1 h2 h3 h4 (paired_mono (fun v b => hR _ _ v b hide_le) h4)
  · exact lc_src hS hR.sm f hn hP hw ht (fun i b hi hf H D hS hD ⟨acc, hacc⟩ Q q => he i b hi hf H hS Q fun y H' e r => q y H' e (hR _ _ _ _ (hide_kp (e _ _ hacc)) r))
      fun D ys H h1 h2 h3 h4 => k D ys H h1 h2 h3 h4 (paired_mono (fun v b => hR.sm _ _ v b hide_le) h4)
/-- a for: what is walked (Src), what holds between the turns (Pv) -/
def tForS (wi : L2.TI) (g : TG) (tb : TS) : TS := fun D σ H => wi σ H fun J B => ∃ (P : Hp → Prop) (n : Nat) (S : Nat → L2.St → L2.St) (Pv : Nat → L2.St → Hp → Prop), Src J g P n S ∧ Pv 0 σ B ∧ (∀ i σ H, Pv i σ H → P H) ∧
  (∀ i σ H H', i < n → Pv i σ H → Same H H' → tb { D with nx := Pv (i + 1), ct := Pv (i + 1), bk := D.nx } (S i σ) H') ∧ ∀ σ H, Pv n σ H → D.nx σ H
section
variable {X : Cx} {pos : Pos}
theorem pe_lcS {elt tg iter : Expr} {ifs : List Expr} {scope : Scope} {own : List (Str × Nat)} {wi : L2.TI} {g : TG} {tt : TT} {te : TE} (hc : X.calm = true) (hN : X.N.Nodup) (hi : PI X tg iter wi) (ok : BlkOk X.N X.env.scope scope own)
    (hg : ∀ (s : Shared) (H : Hp) (C : Addr) (cl : List (Str × Addr)) (fp : List Addr), PG (X.blk s H scope (compEnvC scope cl C X.env) fp) tg g) (ht : ∀ (s : Shared) (H : Hp) (C : Addr) (cl : List (Str × Addr)) (fp : List Addr), PTs (X.blk s H scope (compEnvC scope cl C X.env) fp) ifs tt)
    (he : ∀ (s : Shared) (H : Hp) (C : Addr) (cl : List (Str × Addr)) (fp : List Addr), PE (X.blk s H scope (compEnvC scope cl C X.env) fp) elt te) (hs : ∀ x, foldedSetIterable iter X.env x = pure x := by intro _; rfl) :
    PE X (.ListComp elt [⟨tg, iter, ifs, 0⟩] scope pos) (tLcS wi g tt te (own.map (·.2))) :=
  have q := pe_lc (pos := pos) hc hN (pi_mono hi) ok hg ht he hs
  ⟨fun pins s σ H Q I h => q.run pins s σ H Q I h.to⟩
theorem ps_setLcS {i : Nat} {y : Str} {py : Pos} {elt tg iter : Expr} {ifs : List Expr} {scope : Scope} {own : List (Str × Nat)} {spos : Pos} {wi : L2.TI} {g : TG} {tt : TT} {te : TE} (hc : X.calm = true) (hN : X.N.Nodup) (hy : X.N[i]? = some y) (hyl : X.env.scope.names.lookup y = some .local)
    (hsw : swapsWith (.ListComp elt [⟨tg, iter, ifs, 0⟩] scope pos) (some (.Name y py)) spos.line X.env = pure true) (hi : PI X tg iter wi) (ok : BlkOk X.N X.env.scope scope own)
    (hg : ∀ (s : Shared) (H : Hp) (C : Addr) (cl : List (Str × Addr)) (fp : List Addr), PG (X.blk s H scope (compEnvC scope cl C X.env) fp) tg g) (ht : ∀ (s : Shared) (H : Hp) (C : Addr) (cl : List (Str × Addr)) (fp : List Addr), PTs (X.blk s H scope (compEnvC scope cl C X.env) fp) ifs tt)
    (he : ∀ (s : Shared) (H : Hp) (C : Addr) (cl : List (Str × Addr)) (fp : List Addr), PE (X.blk s H scope (compEnvC scope cl C X.env) fp) elt te) (hs : ∀ x, foldedSetIterable iter X.env x = pure x := by intro _; rfl) :
    PS X (.Assign [.Name y py] (.ListComp elt [⟨tg, iter, ifs, 0⟩] scope pos) spos) (tAsg (tLcS wi g tt te (own.map (·.2))) (gName i)) :=
  have q := ps_setLc (spos := spos) hc hN hy hyl hsw (pi_mono hi) ok hg ht he hs
  ⟨fun pins s σ H D I h => q.run pins s σ H D I (tLcS.to h)⟩
theorem ps_forS {tg iter : Expr} {body : List Stmt} {wi : L2.TI} {g : TG} {tb : TS} (hp : PassesOwn (model X.prog X.w) X.A X.env X.xe) (hc : X.calm = true) (hi : PI X tg iter wi) (hg : PG X tg g) (hb : PSs X body tb)
    (hs : ∀ x, foldedSetIterable iter X.env x = pure x := by intro _; rfl) : PS X (.For tg iter body [] pos) (tForS wi g tb) := by
  have q := ps_for (pos := pos) hp hc (pi_mono hi) hg hb hs
  refine ⟨fun pins s σ H D I h => q.run pins s σ H D I ⟨_, h, fun J B q => ?_⟩⟩
  obtain ⟨P, n, S, Pv, hS, h0, hP, hs, hd⟩ := q
  exact for_src hS Pv h0 hP hs hd
end

/-! ### slices, sums of tuples -/
/-- a tuple of such values -/
def TV (H : Hp) (v : V) (xs : List V) : Prop := ∃ a, v = .ref a ∧ H a = some (.tup xs)
theorem cutV_from {xs : List V} {k : Nat} (hk : k ≤ xs.length) : cutV xs (some (k : Int)) none = xs.drop k := by
  unfold cutV
  rw [HT.sIx_nat, HT.sIx_none, Nat.min_eq_left hk]
  exact List.take_of_length_le (by rw [List.length_drop]; exact Nat.le_refl _)
theorem cutV_upto {xs : List V} {k : Nat} (hk : k ≤ xs.length) : cutV xs none (some (k : Int)) = xs.take k := by
  unfold cutV
  rw [HT.sIx_nat, HT.sIx_none, Nat.min_eq_left hk]
  rfl
theorem sl_from {K : PySem.W.Frag} {H : Hp} {v : V} {xs : List V} {i : Int} {k : Nat} {Q : VK} (h : TV H v xs) (e : i = (k : Int)) (hk : k ≤ xs.length) (q : ∀ v H', Same H H' → TV H' v (xs.drop k) → Q v H') : SlW K v (some i) none H Q := by
  obtain ⟨a, rfl, ha⟩ := h
  subst e
  refine ⟨a, xs, rfl, SqT.of ha, fun hw => ?_, fun _ p hp => ?_⟩
  · refine q _ _ (Same.refl _) ⟨a, rfl, ?_⟩
    rw [HT.sIx_nat, Nat.min_eq_left hk] at hw
    rw [hw.1, List.drop_zero]
    exact ha
  · rw [cutV_from hk]
    exact q _ _ (same_new hp _) ⟨p, rfl, upd_same⟩
theorem sl_upto {K : PySem.W.Frag} {H : Hp} {v : V} {xs : List V} {i : Int} {k : Nat} {Q : VK} (h : TV H v xs) (e : i = (k : Int)) (hk : k ≤ xs.length) (q : ∀ v H', Same H H' → TV H' v (xs.take k) → Q v H') : SlW K v none (some i) H Q := by
  obtain ⟨a, rfl, ha⟩ := h
  subst e
  refine ⟨a, xs, rfl, SqT.of ha, fun hw => ?_, fun _ p hp => ?_⟩
  · refine q _ _ (Same.refl _) ⟨a, rfl, ?_⟩
    rw [HT.sIx_nat, Nat.min_eq_left hk] at hw
    rw [hw.2, List.take_of_length_le (Nat.le_refl _)]
    exact ha
  · rw [cutV_upto hk]
    exact q _ _ (same_new hp _) ⟨p, rfl, upd_same⟩
theorem cat_tv {K : PySem.W.Frag} {H : Hp} {v u : V} {xs ys : List V} {Q : VK} (h : TV H v xs) (h' : TV H u ys) (hz : xs.length + ys.length ≤ 100000) (q : ∀ v H', Same H H' → TV H' v (xs ++ ys) → Q v H') : CatW K v u H Q := by
  obtain ⟨a, rfl, ha⟩ := h
  obtain ⟨b, rfl, hb⟩ := h'
  refine ⟨a, b, xs, ys, rfl, rfl, SqT.of ha, SqT.of hb, by rw [sizeLine_eq]; omega, fun e => ?_, fun _ e => ?_, fun _ _ p hp => ?_⟩
  · exact q _ _ (Same.refl _) ⟨b, rfl, by rw [e]; exact hb⟩
  · exact q _ _ (Same.refl _) ⟨a, rfl, by rw [e, List.append_nil]; exact ha⟩
  · exact q _ _ (same_new hp _) ⟨p, rfl, upd_same⟩
theorem TI.tv {H : Hp} {v : V} {ns : List Int} (h : TI H v ns) : TV H v (ns.map V.int) := h
theorem TV.sm {H H' : Hp} {v : V} {xs : List V} (h : TV H v xs) (e : Same H H') : TV H' v xs := by
  obtain ⟨a, rfl, ha⟩ := h
  exact ⟨a, rfl, e _ _ ha⟩
theorem TV.kp {H H' : Hp} {v : V} {xs : List V} (h : TV H v xs) (e : Kp H H') : TV H' v xs := by
  obtain ⟨a, rfl, ha⟩ := h
  exact ⟨a, rfl, e _ _ ha⟩
/-- an expression that is never come to -/
theorem pe_never {X : Cx} {e : Expr} : PE X e (fun _ _ _ => False) := ⟨fun _ _ _ _ _ _ h => h.elim⟩
theorem iteB {c : Bool} {A B : Prop} (h1 : c = true → A) (h2 : c = false → B) : if c = true then A else B := by
  cases c with
  | true => exact h1 rfl
  | false => exact h2 rfl
/-- what has come up since -/
def newOf (B H : Hp) : Hp := fun a => if (B a).isSome = true then none else H a
theorem newOf_same {B H H' : Hp} (e : Same H H') : Same (newOf B H) (newOf B H') := fun a o h => by
  unfold newOf at h ⊢
  split at h
  · cases h
  · rename_i hne
    rw [if_neg hne]
    exact e a o h
theorem newOf_le {B H : Hp} : Same (newOf B H) H := fun a o h => by
  unfold newOf at h
  split at h
  · cases h
  · exact h
theorem newOf_at {B H : Hp} {a : Addr} (h : B a = none) : newOf B H a = H a := by
  unfold newOf
  rw [h]
  rfl
/-- new behind a later heap, D already there: new behind the earlier, D out of sight -/
theorem newOf_step {B H3 H' : Hp} {D : Addr} {o : HO} (e : Same B H3) (hD : H3 D = some o) : Same (newOf H3 H') (newOf B (hide D H')) := fun a u h => by
  unfold newOf at h
  split at h
  · cases h
  · rename_i hne
    have h3 : H3 a = none := by
      cases q : H3 a with
      | none => rfl
      | some x => rw [q] at hne; exact absurd rfl hne
    have hb : B a = none := e.free h3
    rw [newOf_at hb, hide_get (fun z => by rw [z, hD] at h3; cases h3)]
    exact h
end Rw

namespace Rw
open PySem PySem.Spec PyProof.Rows L2

/-! ### numbers -/
def ledM (w : List Int) (z : Int) : Int := w.getD (z % (w.length : Int)).toNat 0 + z / (w.length : Int) * (w.length : Int)
def sp_led_in : Sp := fun vs H Q _ => ∃ v1 v2, vs = [v1, v2] ∧ ∃ (ws : List Int) (n : Int), TI H v1 ws ∧ v2 = .int n ∧ ws ≠ [] ∧ ws.length < 1000 ∧ ∀ H', Same H H' → Q (.int (ledM ws n)) H'
abbrev N_led_in : List Str := ["wheel", "number", "rounds", "place"]
abbrev s_led_in : Stmt := topS 12
theorem sc_led_in : FnScope N_led_in ["wheel", "number"] (defScope s_led_in) := ⟨rfl, rfl, rfl, by decide +kernel, rfl, by decide +kernel, by decide +kernel⟩
theorem ok_led_in {P : Program} {w : World} {K : PySem.W.Frag} {mg : Str → Option Value} {base : Heap} (Tt : Tx K mg "led_in" s_led_in ["wheel", "number"]) (Bt : Bi mg) :
    Fd P w K mg base "led_in" 2 1 sp_led_in := by
  refine Tt.ok sc_led_in (fun vs H Q E h => ?_) (fun f cdv A outer s H vs Q E hr h => ?_)
  · obtain ⟨_, _, rfl, _⟩ := h
    rfl
  obtain ⟨_, _, rfl, ws, n, ⟨a, rfl, ha⟩, rfl, hne, hl, q⟩ := h
  refine ⟨_, pss_cons (ps_asg (e_divmod Bt (pv 1) (e_len K Bt (pv 0))) (k_tg K 2 rfl (pgs_cons (pg_name (i := 2) sc_led_in.nd rfl (Or.inl rfl)) (pgs_cons (pg_name (i := 3) sc_led_in.nd rfl (Or.inl rfl)) (pgs_nil)))))
    (pss_one (ps_ret (pe_op op_add (pe_ix (k_ixT K) (pv 0) (pv 3) (fun _ _ => rfl)) (pe_op op_mul (pv 2) (e_len K Bt (pv 0)))))), ?_⟩
  have hpos := pos_of_ne hne
  obtain ⟨m0, m1⟩ := mod_ok n hpos
  refine ⟨_, rfl, _, rfl, a, _, _, rfl, .inr (SqT.of ha), len_int, _, _, rfl, ⟨by omega, by omega⟩, fun p hp => ?_⟩
  have g1 : Same H (upd H p (.tup [.int (n / (ws.length : Nat)), .int (n % (ws.length : Nat))])) := same_new hp _
  refine ⟨p, _, rfl, SqT.of upd_same, rfl, _, _, rfl, _, _, rfl, rfl, ?_⟩
  refine ⟨_, rfl, _, rfl, a, _, _, _, rfl, rfl, SqT.of (g1 _ _ ha), atI_int m0 m1, _, rfl, _, rfl, a, _, _, rfl, .inr (SqT.of (g1 _ _ ha)), len_int, _, _, rfl, rfl, .inr ⟨by omega, by omega⟩, _, _, rfl, rfl, ?_⟩
  exact q _ g1
def nameM (ps : List Int) (ring n : Int) : Int := ps.getD (n % (ps.length : Int)).toNat 0 + n / (ps.length : Int) * ring
def sp_name_in : Sp := fun vs H Q _ => ∃ v1 v2 v3, vs = [v1, v2, v3] ∧ ∃ (ps : List Int) (ring n : Int), TI H v1 ps ∧ v2 = .int ring ∧ v3 = .int n ∧ ps ≠ [] ∧ ps.length < 1000 ∧ 0 < ring ∧ ring < 1000 ∧ ∀ H', Same H H' → Q (.int (nameM ps ring n)) H'
abbrev N_name_in : List Str := ["places", "ring", "number"]
abbrev s_name_in : Stmt := topS 14
theorem sc_name_in : FnScope N_name_in ["places", "ring", "number"] (defScope s_name_in) := ⟨rfl, rfl, rfl, by decide +kernel, rfl, by decide +kernel, by decide +kernel⟩
theorem ok_name_in {P : Program} {w : World} {K : PySem.W.Frag} {mg : Str → Option Value} {base : Heap} (Tt : Tx K mg "name_in" s_name_in ["places", "ring", "number"]) (Bt : Bi mg) :
    Fd P w K mg base "name_in" 3 1 sp_name_in := by
  refine Tt.ok sc_name_in (fun vs H Q E h => ?_) (fun f cdv A outer s H vs Q E hr h => ?_)
  · obtain ⟨_, _, _, rfl, _⟩ := h
    rfl
  obtain ⟨_, _, _, rfl, ps, ring, n, ⟨a, rfl, ha⟩, rfl, rfl, hne, hl, h1, h2, q⟩ := h
  refine ⟨_, pss_one (ps_ret (pe_op op_add (pe_ix (k_ixT K) (pv 0) (pe_op op_mod (pv 2) (e_len K Bt (pv 0))) (fun _ _ => rfl)) (pe_op op_mul (pe_op op_fdiv (pv 2) (e_len K Bt (pv 0))) (pv 1)))), ?_⟩
  have hpos := pos_of_ne hne
  obtain ⟨m0, m1⟩ := mod_ok n hpos
  refine ⟨_, rfl, _, rfl, _, rfl, a, _, _, rfl, .inr (SqT.of ha), len_int, _, _, rfl, rfl, (by show (0 : Int) < _; omega), a, _, _, _, rfl, rfl, SqT.of ha, atI_int m0 m1, ?_⟩
  refine ⟨_, rfl, _, rfl, a, _, _, rfl, .inr (SqT.of ha), len_int, _, _, rfl, rfl, ⟨by omega, by omega⟩, _, rfl, _, _, rfl, rfl, .inr ⟨by omega, by omega⟩, _, _, rfl, rfl, ?_⟩
  exact q _ (Same.refl _)
def behindM (ps : List Int) (ring n : Int) : Int := n / ring * (ps.length : Int) + ((ps.filter fun own => decide (own < n % ring)).length : Int)
def sp_behind_in : Sp := fun vs H Q _ => ∃ v1 v2 v3, vs = [v1, v2, v3] ∧ ∃ (ps : List Int) (ring n : Int), TI H v1 ps ∧ v2 = .int ring ∧ v3 = .int n ∧ ps.length < 1000 ∧ 0 < ring ∧ ring < 1000 ∧ ∀ H', Same H H' → Q (.int (behindM ps ring n)) H'
abbrev N_behind_in : List Str := ["places", "ring", "number", "round_first", "own"]
abbrev s_behind_in : Stmt := topS 15
theorem sc_behind_in : FnScope N_behind_in ["places", "ring", "number"] (defScope s_behind_in) := ⟨rfl, rfl, rfl, by decide +kernel, rfl, by decide +kernel, by decide +kernel⟩
theorem ok_behind_in {P : Program} {w : World} {K : PySem.W.Frag} {mg : Str → Option Value} {base : Heap} (Tt : Tx K mg "behind_in" s_behind_in ["places", "ring", "number"]) (Bt : Bi mg) :
    Fd P w K mg base "behind_in" 3 1 sp_behind_in := by
  refine Tt.ok sc_behind_in (fun vs H Q E h => ?_) (fun f cdv A outer s H vs Q E hr h => ?_)
  · obtain ⟨_, _, _, rfl, _⟩ := h
    rfl
  obtain ⟨_, _, _, rfl, ps, ring, n, ⟨a, rfl, ha⟩, rfl, rfl, hl, h1, h2, q⟩ := h
  refine ⟨_, pss_cons (ps_set (i := 3) sc_behind_in.nd rfl (Or.inl rfl) (pe_op op_mul (pe_op op_fdiv (pv 2) (pv 1)) (e_len K Bt (pv 0))))
    (pss_one (ps_ret (pe_op op_add (pv 3) (e_len K Bt (pe_lcS (own := [("own", 4)]) rfl sc_behind_in.nd (k_tup K (pv 0)) (blkOk_by (N := N_behind_in) (sc := defScope s_behind_in) (by decide +kernel)) (fun _ _ _ _ _ => pg_name (i := 4) sc_behind_in.nd rfl (Or.inl rfl)) (fun _ _ _ _ _ => pts_one (pt_cmpR op_lt (pv 4) (pe_op op_mod (pv 2) (pv 1)) (nomark _))) (fun _ _ _ _ _ => pv 4)))))), ?_⟩
  refine ⟨_, rfl, _, rfl, _, _, rfl, rfl, ⟨by omega, by omega⟩, _, rfl, a, _, _, rfl, .inr (SqT.of ha), len_int, _, _, rfl, rfl, .inr ⟨by omega, by omega⟩, ?_⟩
  refine ⟨_, rfl, _, rfl, a, rfl, ⟨_, SqT.of ha⟩, Int, rI, _, _, _, fun i => if decide (ps.getD i 0 < n % ring) = true then some (ps.getD i 0) else none, src_tupI, by omega, fun H' g => SqT.of (g _ _ ha), fun i hi => rfl,
    fun i hi H' g Q' q' => ?_, .inr ⟨km_I, fun i b hi hb H' g Q' q' => ?_⟩, fun D ys H' hD g hY _ hp => ?_⟩
  · refine ⟨_, rfl, _, rfl, _, rfl, _, _, rfl, rfl, (by show (0 : Int) < _; omega), _, _, rfl, rfl, _, rfl, ?_⟩
    exact ifs_some.mp (q' H' (Same.refl _))
  · refine ⟨_, rfl, q' _ _ (Same.refl _) ?_⟩
    exact congrArg V.int (if_some hb).symm
  · rw [fm_all ps 0 (fun own => if decide (own < n % ring) = true then some own else none), fm_if] at hp
    refine ⟨D, ys, _, rfl, .inl (SqL.of hY), (paired_len hp).symm, _, _, rfl, rfl, ?_⟩
    exact q _ g
end Rw

namespace Rw
open PySem PySem.Spec PyProof.Rows L2

def greatestM (ps : List Int) (number : Int) (ring : Nat) : List Int := (List.range ring).map fun (i : Nat) => nameM ps ring (behindM ps ring (i : Int) + number)
def sp_greatest_in : Sp := fun vs H Q _ => ∃ v1 v2 v3, vs = [v1, v2, v3] ∧ ∃ (ps : List Int) (n : Int) (ring : Nat), TI H v1 ps ∧ v2 = .int n ∧ v3 = .int (ring : Nat) ∧ ps ≠ [] ∧ ps.length < 1000 ∧ 0 < ring ∧ ring < 1000 ∧
  ∀ v H', Same H H' → TI H' v (greatestM ps n ring) → Q v H'
abbrev N_greatest_in : List Str := ["places", "number", "ring", "own"]
abbrev s_greatest_in : Stmt := topS 16
theorem sc_greatest_in : FnScope N_greatest_in ["places", "number", "ring"] (defScope s_greatest_in) := ⟨rfl, rfl, rfl, by decide +kernel, rfl, by decide +kernel, by decide +kernel⟩
theorem ok_greatest_in {P : Program} {w : World} {K : PySem.W.Frag} {mg : Str → Option Value} {base : Heap} (Tt : Tx K mg "greatest_in" s_greatest_in ["places", "number", "ring"]) (Bt : Bi mg) (F_name_in : Fd P w K mg base "name_in" 3 1 sp_name_in) (F_behind_in : Fd P w K mg base "behind_in" 3 1 sp_behind_in) :
    Fd P w K mg base "greatest_in" 3 2 sp_greatest_in := by
  refine Tt.ok sc_greatest_in (fun vs H Q E h => ?_) (fun f cdv A outer s H vs Q E hr h => ?_)
  · obtain ⟨_, _, _, rfl, _⟩ := h
    rfl
  obtain ⟨_, _, _, rfl, ps, n, ring, h, rfl, rfl, hne, hl, h1, h2, q⟩ := h
  refine ⟨_, pss_one (ps_ret (e_tuple K Bt (pe_lcS (own := [("own", 3)]) rfl sc_greatest_in.nd (pi_range1 rfl Bt.range (pa_cons (pv 2) (pa_nil))) (blkOk_by (N := N_greatest_in) (sc := defScope s_greatest_in) (by decide +kernel)) (fun _ _ _ _ _ => pg_name (i := 3) sc_greatest_in.nd rfl (Or.inl rfl)) (fun _ _ _ _ _ => pts_nil) (fun _ _ _ _ _ => pe_fn F_name_in hr (by decide) rfl (pa_cons (pv 0) (pa_cons (pv 2) (pa_cons (pe_op op_add (pe_fn F_behind_in hr (by decide) rfl (pa_cons (pv 0) (pa_cons (pv 2) (pa_cons (pv 3) (pa_nil))))) (pv 1)) (pa_nil)))))))), ?_⟩
  refine ⟨_, rfl, _, rfl, by omega, by omega, Int, rI, _, _, _, fun i => some (nameM ps ring (behindM ps ring (i : Int) + n)), src_rng0 (n := ring), by omega, fun H' g => True.intro, fun i hi => rfl,
    fun i hi H' g Q' q' => q' H' (Same.refl _), .inr ⟨km_I, fun i b hi hb H' g Q' q' => ?_⟩, fun D ys H' hD g hY _ hp => ?_⟩
  · refine ⟨_, rfl, _, rfl, _, rfl, _, rfl, _, rfl, _, _, _, rfl, ps, (ring : Int), (i : Int), h.sm g, rfl, rfl, hl, by omega, by omega, fun H2 g2 => ?_⟩
    refine ⟨_, rfl, _, _, rfl, rfl, _, _, _, rfl, ps, (ring : Int), _, h.sm (g.trans g2), rfl, rfl, hne, hl, by omega, by omega, fun H3 g3 => ?_⟩
    exact q' _ _ (g2.trans g3) (congrArg V.int (Option.some.inj hb))
  · rw [fm_some] at hp
    refine ⟨D, ys, rfl, .inl ⟨SqL.of hY, fun l hl => ?_⟩⟩
    exact q _ _ (g.trans (same_new hl _)) ⟨l, rfl, by rw [upd_same, paired_I hp]; rfl⟩

def turnedM (ns : List Int) (k : Int) : List Int := ns.drop (k % (ns.length : Int)).toNat ++ ns.take (k % (ns.length : Int)).toNat
def sp_turned_in : Sp := fun vs H Q _ => ∃ v1 v2, vs = [v1, v2] ∧ ∃ (ns : List Int) (k : Int), TI H v1 ns ∧ v2 = .int k ∧ ns ≠ [] ∧ ns.length < 1000 ∧ ∀ v H', Same H H' → TI H' v (turnedM ns k) → Q v H'
abbrev N_turned_in : List Str := ["word", "number", "far"]
abbrev s_turned_in : Stmt := topS 24
theorem sc_turned_in : FnScope N_turned_in ["word", "number"] (defScope s_turned_in) := ⟨rfl, rfl, rfl, by decide +kernel, rfl, by decide +kernel, by decide +kernel⟩
theorem ok_turned_in {P : Program} {w : World} {K : PySem.W.Frag} {mg : Str → Option Value} {base : Heap} (Tt : Tx K mg "turned_in" s_turned_in ["word", "number"]) (Bt : Bi mg) :
    Fd P w K mg base "turned_in" 2 1 sp_turned_in := by
  refine Tt.ok sc_turned_in (fun vs H Q E h => ?_) (fun f cdv A outer s H vs Q E hr h => ?_)
  · obtain ⟨_, _, rfl, _⟩ := h
    rfl
  obtain ⟨_, _, rfl, ns, k, h, rfl, hne, hl, q⟩ := h
  refine ⟨_, pss_cons (ps_set (i := 2) sc_turned_in.nd rfl (Or.inl rfl) (pe_op op_mod (pv 1) (e_len K Bt (pv 0))))
    (pss_one (ps_ret (pe_op (k_catT K) (pe_slice (k_slT K) (pv 0) (po_some (pv 2)) (po_none)) (pe_slice (k_slT K) (pv 0) (po_none) (po_some (pv 2)))))), ?_⟩
  have hpos := pos_of_ne hne
  obtain ⟨m0, m1⟩ := mod_ok k hpos
  obtain ⟨a, rfl, ha⟩ := id h
  refine ⟨_, rfl, _, rfl, a, _, _, rfl, .inr (SqT.of ha), len_int, _, _, rfl, rfl, (by show (0 : Int) < _; omega), ?_⟩
  refine ⟨_, rfl, _, rfl, _, rfl, ?_⟩
  have hk : (k % (ns.length : Int)).toNat ≤ (ns.map V.int).length := by rw [List.length_map]; omega
  refine sl_from (k := (k % (ns.length : Int)).toNat) h.tv (Int.toNat_of_nonneg m0).symm hk fun v1 H1 g1 t1 => ?_
  refine ⟨_, rfl, _, rfl, _, rfl, ?_⟩
  refine sl_upto (k := (k % (ns.length : Int)).toNat) (h.sm g1).tv (Int.toNat_of_nonneg m0).symm hk fun v2 H2 g2 t2 => ?_
  refine cat_tv (t1.sm g2) t2 (by rw [List.length_drop, List.length_take, List.length_map]; omega) fun v3 H3 g3 t3 => ?_
  refine q _ _ (g1.trans (g2.trans g3)) ?_
  rw [← List.map_drop, ← List.map_take, ← List.map_append] at t3
  exact t3
/-- the least of some rows -/
def minL : List (List Int) → List Int
  | [] => []
  | r :: rs => minR r rs
def leastM (ns : List Int) : List Int := minL ((List.range ns.length).map fun (i : Nat) => turnedM ns (i : Int))
def sp_least_in_turn : Sp := fun vs H Q _ => ∃ v1, vs = [v1] ∧ ∃ (ns : List Int), TI H v1 ns ∧ ns ≠ [] ∧ ns.length < 1000 ∧ ∀ v H', Same H H' → TI H' v (leastM ns) → Q v H'
theorem min_ok {K : PySem.W.Frag} {H : Hp} {D : Addr} {ys : List V} {rs : List (List Int)} {Q : VK} (h : H D = some (.lst ys)) (hp : Paired (TI H) ys rs) (hne : rs ≠ []) (q : ∀ v, TI H v (minL rs) → Q v H) : MinW K [.ref D] H Q := by
  cases rs with
  | nil => exact absurd rfl hne
  | cons r rs => exact ⟨D, ys, r, rs, rfl, SqL.of h, hp, q⟩
abbrev N_least_in_turn : List Str := ["word", "far"]
abbrev s_least_in_turn : Stmt := topS 25
theorem sc_least_in_turn : FnScope N_least_in_turn ["word"] (defScope s_least_in_turn) := ⟨rfl, rfl, rfl, by decide +kernel, rfl, by decide +kernel, by decide +kernel⟩
theorem ok_least_in_turn {P : Program} {w : World} {K : PySem.W.Frag} {mg : Str → Option Value} {base : Heap} (Tt : Tx K mg "least_in_turn" s_least_in_turn ["word"]) (Bt : Bi mg) (F_turned_in : Fd P w K mg base "turned_in" 2 1 sp_turned_in) :
    Fd P w K mg base "least_in_turn" 1 2 sp_least_in_turn := by
  refine Tt.ok sc_least_in_turn (fun vs H Q E h => ?_) (fun f cdv A outer s H vs Q E hr h => ?_)
  · obtain ⟨_, rfl, _⟩ := h
    rfl
  obtain ⟨_, rfl, ns, h, hne, hl, q⟩ := h
  refine ⟨_, pss_one (ps_ret (e_minR K Bt hr (pe_lcS (own := [("far", 1)]) rfl sc_least_in_turn.nd (pi_range1 rfl Bt.range (pa_cons (e_len K Bt (pv 0)) (pa_nil))) (blkOk_by (N := N_least_in_turn) (sc := defScope s_least_in_turn) (by decide +kernel)) (fun _ _ _ _ _ => pg_name (i := 1) sc_least_in_turn.nd rfl (Or.inl rfl)) (fun _ _ _ _ _ => pts_nil) (fun _ _ _ _ _ => pe_fn F_turned_in hr (by decide) rfl (pa_cons (pv 0) (pa_cons (pv 1) (pa_nil))))))), ?_⟩
  obtain ⟨a, rfl, ha⟩ := id h
  have hpos := pos_of_ne hne
  refine ⟨_, rfl, a, _, _, rfl, .inr (SqT.of ha), len_int, _, rfl, by omega, by omega, List Int, TI, _, _, _, fun i => some (turnedM ns (i : Int)), src_rng0 (n := ns.length), by omega, fun H' g => True.intro, fun i hi => rfl,
    fun i hi H' g Q' q' => q' H' (Same.refl _), .inr ⟨km_TI, fun i b hi hb H' g Q' q' => ?_⟩, fun D ys H' hD g hY _ hp => ?_⟩
  · refine ⟨_, rfl, _, rfl, _, _, rfl, ns, (i : Int), h.sm g, rfl, hne, hl, fun v H2 g2 t => ?_⟩
    exact q' _ _ g2 (by rw [← Option.some.inj hb]; exact t)
  · rw [fm_some] at hp
    refine min_ok hY hp ?_ fun v t => q _ _ g t
    intro e
    have z := congrArg List.length e
    rw [List.length_map, List.length_range, List.length_nil] at z
    exact absurd z (by omega)

/-! ### the law's own numbers -/
def sp_led_L : Sp := sp_led_in
abbrev N_led_L : List Str := ["_law_disk_here", "_law_z"]
abbrev s_led_L : Stmt := topS 45
theorem sc_led_L : FnScope N_led_L ["_law_disk_here", "_law_z"] (defScope s_led_L) := ⟨rfl, rfl, rfl, by decide +kernel, rfl, by decide +kernel, by decide +kernel⟩
theorem ok_led_L {P : Program} {w : World} {K : PySem.W.Frag} {mg : Str → Option Value} {base : Heap} (Tt : Tx K mg "_law_led" s_led_L ["_law_disk_here", "_law_z"]) (Bt : Bi mg) :
    Fd P w K mg base "_law_led" 2 1 sp_led_L := by
  refine Tt.ok sc_led_L (fun vs H Q E h => ?_) (fun f cdv A outer s H vs Q E hr h => ?_)
  · obtain ⟨_, _, rfl, _⟩ := h
    rfl
  obtain ⟨_, _, rfl, ws, n, ⟨a, rfl, ha⟩, rfl, hne, hl, q⟩ := h
  refine ⟨_, pss_one (ps_ret (pe_op op_add (pe_ix (k_ixT K) (pv 0) (pe_op op_mod (e_int Bt (pv 1)) (e_len K Bt (pv 0))) (fun _ _ => rfl)) (pe_op op_mul (pe_op op_fdiv (pv 1) (e_len K Bt (pv 0))) (e_len K Bt (pv 0))))), ?_⟩
  have hpos := pos_of_ne hne
  obtain ⟨m0, m1⟩ := mod_ok n hpos
  refine ⟨_, rfl, _, rfl, .inl ⟨_, rfl, _, rfl, a, _, _, rfl, .inr (SqT.of ha), len_int, _, _, rfl, rfl, (by show (0 : Int) < _; omega), a, _, _, _, rfl, rfl, SqT.of ha, atI_int m0 m1, ?_⟩⟩
  refine ⟨_, rfl, _, rfl, a, _, _, rfl, .inr (SqT.of ha), len_int, _, _, rfl, rfl, ⟨by omega, by omega⟩, _, rfl, a, _, _, rfl, .inr (SqT.of ha), len_int, _, _, rfl, rfl, .inr ⟨by omega, by omega⟩, _, _, rfl, rfl, ?_⟩
  exact q _ (Same.refl _)
def sp_told_on_L : Sp := fun vs H Q _ => ∃ v1 v2 v3, vs = [v1, v2, v3] ∧ ∃ (ps : List Int) (ring n : Int), TI H v1 ps ∧ v2 = .int ring ∧ v3 = .int n ∧ ps ≠ [] ∧ ps.length < 1000 ∧ 0 < ring ∧ ring < 1000 ∧ ∀ H', Same H H' → Q (.int (nameM ps ring n)) H'
abbrev N_told_on_L : List Str := ["_law_spots_so", "_law_ring_so", "_law_i"]
abbrev s_told_on_L : Stmt := topS 49
theorem sc_told_on_L : FnScope N_told_on_L ["_law_spots_so", "_law_ring_so", "_law_i"] (defScope s_told_on_L) := ⟨rfl, rfl, rfl, by decide +kernel, rfl, by decide +kernel, by decide +kernel⟩
theorem ok_told_on_L {P : Program} {w : World} {K : PySem.W.Frag} {mg : Str → Option Value} {base : Heap} (Tt : Tx K mg "_law_told_on" s_told_on_L ["_law_spots_so", "_law_ring_so", "_law_i"]) (Bt : Bi mg) :
    Fd P w K mg base "_law_told_on" 3 1 sp_told_on_L := by
  refine Tt.ok sc_told_on_L (fun vs H Q E h => ?_) (fun f cdv A outer s H vs Q E hr h => ?_)
  · obtain ⟨_, _, _, rfl, _⟩ := h
    rfl
  obtain ⟨_, _, _, rfl, ps, ring, n, ⟨a, rfl, ha⟩, rfl, rfl, hne, hl, h1, h2, q⟩ := h
  refine ⟨_, pss_one (ps_ret (pe_op op_add (pe_ix (k_ixT K) (pv 0) (pe_op op_mod (e_int Bt (pv 2)) (e_len K Bt (pv 0))) (fun _ _ => rfl)) (pe_op op_mul (pe_op op_fdiv (pv 2) (e_len K Bt (pv 0))) (pv 1)))), ?_⟩
  have hpos := pos_of_ne hne
  obtain ⟨m0, m1⟩ := mod_ok n hpos
  refine ⟨_, rfl, _, rfl, .inl ⟨_, rfl, _, rfl, a, _, _, rfl, .inr (SqT.of ha), len_int, _, _, rfl, rfl, (by show (0 : Int) < _; omega), a, _, _, _, rfl, rfl, SqT.of ha, atI_int m0 m1, ?_⟩⟩
  refine ⟨_, rfl, _, rfl, a, _, _, rfl, .inr (SqT.of ha), len_int, _, _, rfl, rfl, ⟨by omega, by omega⟩, _, rfl, _, _, rfl, rfl, .inr ⟨by omega, by omega⟩, _, _, rfl, rfl, ?_⟩
  exact q _ (Same.refl _)
/-- strictly ahead -/
def aheadM (ps : List Int) (ring n : Int) : Int := behindM ps ring n - 1
def sp_name_ahead_L : Sp := fun vs H Q _ => ∃ v1 v2 v3 v4, vs = [v1, v2, v3, v4] ∧ ∃ (ps : List Int) (ring n : Int), TI H v1 ps ∧ v2 = .int ring ∧ v3 = .int n ∧ v4 = .bl true ∧ ps.length < 1000 ∧ 0 < ring ∧ ring < 1000 ∧ ∀ H', Same H H' → Q (.int (aheadM ps ring n)) H'
abbrev N_name_ahead_L : List Str := ["_law_spots_so", "_law_ring_so", "_law_z", "_law_strict_so", "_law_many_so", "_law_rest_so", "_law_under_so", "_law_own"]
abbrev s_name_ahead_L : Stmt := topS 50
theorem sc_name_ahead_L : FnScope N_name_ahead_L ["_law_spots_so", "_law_ring_so", "_law_z", "_law_strict_so"] (defScope s_name_ahead_L) := ⟨rfl, rfl, rfl, by decide +kernel, rfl, by decide +kernel, by decide +kernel⟩
theorem ok_name_ahead_L {P : Program} {w : World} {K : PySem.W.Frag} {mg : Str → Option Value} {base : Heap} (Tt : Tx K mg "_law_name_ahead" s_name_ahead_L ["_law_spots_so", "_law_ring_so", "_law_z", "_law_strict_so"]) (Bt : Bi mg) :
    Fd P w K mg base "_law_name_ahead" 4 1 sp_name_ahead_L := by
  refine Tt.ok sc_name_ahead_L (fun vs H Q E h => ?_) (fun f cdv A outer s H vs Q E hr h => ?_)
  · obtain ⟨_, _, _, _, rfl, _⟩ := h
    rfl
  obtain ⟨_, _, _, _, rfl, ps, ring, n, ⟨a, rfl, ha⟩, rfl, rfl, rfl, hl, h1, h2, q⟩ := h
  refine ⟨_, pss_cons (ps_set (i := 4) sc_name_ahead_L.nd rfl (Or.inl rfl) (e_len K Bt (pv 0)))
    (pss_cons (ps_set (i := 5) sc_name_ahead_L.nd rfl (Or.inr rfl) (pe_op op_mod (e_int Bt (pv 2)) (pv 1)))
    (pss_cons (ps_setLcS (i := 6) (own := [("_law_own", 7)]) rfl sc_name_ahead_L.nd rfl rfl (sw_true rfl rfl rfl (by decide +kernel)) (k_tup K (pv 0)) (blkOk_by (N := N_name_ahead_L) (sc := defScope s_name_ahead_L) (by decide +kernel)) (fun _ _ _ _ _ => pg_name (i := 7) sc_name_ahead_L.nd rfl (Or.inl rfl)) (fun _ _ _ _ _ => pts_one (PW.pt (pw_or (pt_cmpR op_lt (pv 7) (pv 5) (nomark _)) (pw_or1 (PW.pt (pw_and (pt_cmpR op_eq (pv 7) (pv 5) (nomark _)) (pw_and1 (pt_not (pt_val (pv 3)))))))))) (fun _ _ _ _ _ => pv 7))
    (pss_one (ps_ret (pe_op op_sub (pe_op op_add (pe_op op_mul (pe_op op_fdiv (pv 2) (pv 1)) (pv 4)) (e_len K Bt (pv 6))) (pe_int)))))), ?_⟩
  refine ⟨_, rfl, a, _, _, rfl, .inr (SqT.of ha), len_int, _, rfl, .inl ⟨_, rfl, _, rfl, _, _, rfl, rfl, (by show (0 : Int) < _; omega), ?_⟩⟩
  refine ⟨_, rfl, a, rfl, ⟨_, SqT.of ha⟩, Int, rI, _, _, _, fun i => if decide (ps.getD i 0 < n % ring) = true then some (ps.getD i 0) else none, src_tupI, by omega, fun H' g => SqT.of (g _ _ ha), fun i hi => rfl,
    fun i hi H' g Q' q' => ?_, .inr ⟨km_I, fun i b hi hb H' g Q' q' => ?_⟩, fun D ys H' hD g hY _ hp => ?_⟩
  · refine ⟨_, rfl, _, rfl, _, _, rfl, rfl, _, rfl, ?_⟩
    have z := ifs_some.mp (q' H' (Same.refl _))
    by_cases hlt : ps.getD i 0 < n % ring
    · rw [decide_eq_true hlt] at z ⊢
      exact z
    · rw [decide_eq_false hlt] at z ⊢
      refine ⟨_, rfl, _, rfl, rfl, _, rfl, ?_⟩
      by_cases he : V.int (ps.getD i 0) = V.int (n % ring)
      · rw [decide_eq_true he]
        exact ⟨_, rfl, _, rfl, z⟩
      · rw [decide_eq_false he]
        exact z
  · refine ⟨_, rfl, q' _ _ (Same.refl _) ?_⟩
    exact congrArg V.int (if_some hb).symm
  · rw [fm_all ps 0 (fun own => if decide (own < n % ring) = true then some own else none), fm_if] at hp
    refine ⟨_, rfl, _, rfl, _, _, rfl, rfl, ⟨by omega, by omega⟩, _, rfl, _, _, rfl, rfl, .inr ⟨by omega, by omega⟩, _, rfl, D, ys, _, rfl, .inl (SqL.of hY), (paired_len hp).symm, _, _, rfl, rfl, _, _, rfl, rfl, ?_⟩
    exact q _ g
def sp_shift_L : Sp := fun vs H Q _ => ∃ v1 v2, vs = [v1, v2] ∧ ∃ (ring : Nat) (m : Int), v1 = .int (ring : Nat) ∧ v2 = .int m ∧ ring < 1000 ∧ ∀ v H', Same H H' → TI H' v ((List.range ring).map fun (i : Nat) => (i : Int) + m) → Q v H'
abbrev N_shift_L : List Str := ["_law_ring_so", "_law_m", "_law_k"]
abbrev s_shift_L : Stmt := topS 46
theorem sc_shift_L : FnScope N_shift_L ["_law_ring_so", "_law_m"] (defScope s_shift_L) := ⟨rfl, rfl, rfl, by decide +kernel, rfl, by decide +kernel, by decide +kernel⟩
theorem ok_shift_L {P : Program} {w : World} {K : PySem.W.Frag} {mg : Str → Option Value} {base : Heap} (Tt : Tx K mg "_law_shift" s_shift_L ["_law_ring_so", "_law_m"]) (Bt : Bi mg) :
    Fd P w K mg base "_law_shift" 2 1 sp_shift_L := by
  refine Tt.ok sc_shift_L (fun vs H Q E h => ?_) (fun f cdv A outer s H vs Q E hr h => ?_)
  · obtain ⟨_, _, rfl, _⟩ := h
    rfl
  obtain ⟨_, _, rfl, ring, m, rfl, rfl, hl, q⟩ := h
  refine ⟨_, pss_one (ps_ret (e_tuple K Bt (pe_lcS (own := [("_law_k", 2)]) rfl sc_shift_L.nd (pi_range1 rfl Bt.range (pa_cons (pv 0) (pa_nil))) (blkOk_by (N := N_shift_L) (sc := defScope s_shift_L) (by decide +kernel)) (fun _ _ _ _ _ => pg_name (i := 2) sc_shift_L.nd rfl (Or.inl rfl)) (fun _ _ _ _ _ => pts_nil) (fun _ _ _ _ _ => pe_op op_add (pv 2) (pv 1))))), ?_⟩
  refine ⟨_, rfl, _, rfl, by omega, by omega, Int, rI, _, _, _, fun i => some ((i : Int) + m), src_rng0 (n := ring), by omega, fun H' g => True.intro, fun i hi => rfl,
    fun i hi H' g Q' q' => q' H' (Same.refl _), .inr ⟨km_I, fun i b hi hb H' g Q' q' => ?_⟩, fun D ys H' hD g hY _ hp => ?_⟩
  · exact ⟨_, rfl, _, rfl, _, _, rfl, rfl, q' _ _ (Same.refl _) (congrArg V.int (Option.some.inj hb))⟩
  · rw [fm_some] at hp
    refine ⟨D, ys, rfl, .inl ⟨SqL.of hY, fun l hl => ?_⟩⟩
    exact q _ _ (g.trans (same_new hl _)) ⟨l, rfl, by rw [upd_same, paired_I hp]⟩
def sp_turned_least_L : Sp := sp_least_in_turn
abbrev N_turned_least_L : List Str := ["_law_own", "_law_k"]
abbrev s_turned_least_L : Stmt := topS 58
theorem sc_turned_least_L : FnScope N_turned_least_L ["_law_own"] (defScope s_turned_least_L) := ⟨rfl, rfl, rfl, by decide +kernel, rfl, by decide +kernel, by decide +kernel⟩
theorem ok_turned_least_L {P : Program} {w : World} {K : PySem.W.Frag} {mg : Str → Option Value} {base : Heap} (Tt : Tx K mg "_law_turned_least" s_turned_least_L ["_law_own"]) (Bt : Bi mg) :
    Fd P w K mg base "_law_turned_least" 1 1 sp_turned_least_L := by
  refine Tt.ok sc_turned_least_L (fun vs H Q E h => ?_) (fun f cdv A outer s H vs Q E hr h => ?_)
  · obtain ⟨_, rfl, _⟩ := h
    rfl
  obtain ⟨_, rfl, ns, h, hne, hl, q⟩ := h
  refine ⟨_, pss_one (ps_ret (e_minR K Bt hr (pe_lcS (own := [("_law_k", 1)]) rfl sc_turned_least_L.nd (pi_range1 rfl Bt.range (pa_cons (e_len K Bt (pv 0)) (pa_nil))) (blkOk_by (N := N_turned_least_L) (sc := defScope s_turned_least_L) (by decide +kernel)) (fun _ _ _ _ _ => pg_name (i := 1) sc_turned_least_L.nd rfl (Or.inl rfl)) (fun _ _ _ _ _ => pts_nil) (fun _ _ _ _ _ => pe_op (k_catT K) (pe_slice (k_slT K) (pv 0) (po_some (pv 1)) (po_none)) (pe_slice (k_slT K) (pv 0) (po_none) (po_some (pv 1))))))), ?_⟩
  obtain ⟨a, rfl, ha⟩ := id h
  have hpos := pos_of_ne hne
  refine ⟨_, rfl, a, _, _, rfl, .inr (SqT.of ha), len_int, _, rfl, by omega, by omega, List Int, TI, _, _, _, fun i => some (turnedM ns (i : Int)), src_rng0 (n := ns.length), by omega, fun H' g => True.intro, fun i hi => rfl,
    fun i hi H' g Q' q' => q' H' (Same.refl _), .inr ⟨km_TI, fun i b hi hb H' g Q' q' => ?_⟩, fun D ys H' hD g hY _ hp => ?_⟩
  · have hk : i ≤ (ns.map V.int).length := by rw [List.length_map]; omega
    refine ⟨_, rfl, _, rfl, _, rfl, ?_⟩
    refine sl_from (k := i) (h.sm g).tv rfl hk fun v1 H1 g1 t1 => ?_
    refine ⟨_, rfl, _, rfl, _, rfl, ?_⟩
    refine sl_upto (k := i) (h.sm (g.trans g1)).tv rfl hk fun v2 H2 g2 t2 => ?_
    refine cat_tv (t1.sm g2) t2 (by rw [List.length_drop, List.length_take, List.length_map]; omega) fun v3 H3 g3 t3 => ?_
    refine q' _ _ (g1.trans (g2.trans g3)) ?_
    rw [← List.map_drop, ← List.map_take, ← List.map_append] at t3
    rw [← Option.some.inj hb]
    have e : ((i : Int) % (ns.length : Int)).toNat = i := by
      rw [Int.emod_eq_of_lt (by omega) (by omega)]
      rfl
    unfold turnedM
    rw [e]
    exact t3
  · rw [fm_some] at hp
    refine min_ok hY hp ?_ fun v t => q _ _ g t
    intro e
    have z := congrArg List.length e
    rw [List.length_map, List.length_range, List.length_nil] at z
    exact absurd z (by omega)
end Rw

namespace Rw
open PySem PySem.Spec PyProof.Rows L2

def lgreatM (ps : List Int) (m : Int) (ring : Nat) : List Int := (List.range ring).map fun (z : Nat) => nameM ps ring (aheadM ps ring (z : Int) + 1 + m)
def sp_greatest_L : Sp := fun vs H Q _ => ∃ v1 v2 v3, vs = [v1, v2, v3] ∧ ∃ (ps : List Int) (n : Int) (ring : Nat), TI H v1 ps ∧ v2 = .int n ∧ v3 = .int (ring : Nat) ∧ ps ≠ [] ∧ ps.length < 1000 ∧ 0 < ring ∧ ring < 1000 ∧
  ∀ v H', Same H H' → TI H' v (lgreatM ps n ring) → Q v H'
theorem range_map_succ {α : Type} (f : Nat → α) (i : Nat) : (List.range (i + 1)).map f = (List.range i).map f ++ [f i] := by
  rw [List.range_succ, List.map_append]
  rfl
theorem ty_lst {K : PySem.W.Frag} {H : Hp} {a : Addr} {xs : List V} (h : H a = some (.lst xs)) : tyV K "list" (.ref a) H := Or.inl ⟨rfl, _, Or.inl (Or.inl h)⟩
theorem same_put {H H' : Hp} {D : Addr} {o : HO} (e : Same H H') (h : H D = none) : Same H (upd H' D o) := same_mut e h o
abbrev N_greatest_L : List Str := ["_law_spots_so", "_law_m", "_law_ring_so", "_law_found", "_law_z"]
abbrev s_greatest_L : Stmt := topS 51
theorem sc_greatest_L : FnScope N_greatest_L ["_law_spots_so", "_law_m", "_law_ring_so"] (defScope s_greatest_L) := ⟨rfl, rfl, rfl, by decide +kernel, rfl, by decide +kernel, by decide +kernel⟩
theorem ok_greatest_L {P : Program} {w : World} {K : PySem.W.Frag} {mg : Str → Option Value} {base : Heap} (Tt : Tx K mg "_law_greatest" s_greatest_L ["_law_spots_so", "_law_m", "_law_ring_so"]) (Bt : Bi mg) (F_told_on_L : Fd P w K mg base "_law_told_on" 3 1 sp_told_on_L) (F_name_ahead_L : Fd P w K mg base "_law_name_ahead" 4 1 sp_name_ahead_L) :
    Fd P w K mg base "_law_greatest" 3 2 sp_greatest_L := by
  refine Tt.ok sc_greatest_L (fun vs H Q E h => ?_) (fun f cdv A outer s H vs Q E hr h => ?_)
  · obtain ⟨_, _, _, rfl, _⟩ := h
    rfl
  obtain ⟨v1, _, _, rfl, ps, n, ring, h, rfl, rfl, hne, hl, h1, h2, q⟩ := h
  refine ⟨_, pss_cons (ps_set (i := 3) sc_greatest_L.nd rfl (Or.inl rfl) (pe_lst (pa_nil)))
    (pss_cons (ps_forS PassesOwn.never rfl (pi_range1 rfl Bt.range (pa_cons (pv 2) (pa_nil))) (pg_name (i := 4) sc_greatest_L.nd rfl (Or.inl rfl)) (pss_one (ps_expr (k_bm K PySem.F.plainAttrs_list PySem.F.slot_list_append PySem.F.type_list_append mt_append (pv 3) (pa_cons (pe_fn F_told_on_L hr (by decide) rfl (pa_cons (pv 0) (pa_cons (pv 2) (pa_cons (pe_op op_add (pe_op op_add (pe_fn F_name_ahead_L hr (by decide) rfl (pa_cons (pv 0) (pa_cons (pv 2) (pa_cons (pv 4) (pa_cons (pe_bl) (pa_nil)))))) (pe_int)) (pv 1)) (pa_nil))))) (pa_nil))))))
    (pss_one (ps_ret (e_tuple K Bt (pv 3))))), ?_⟩
  let f : Nat → Int := fun z => nameM ps ring (aheadM ps ring (z : Int) + 1 + n)
  refine ⟨Nat.zero_le _, fun D hD => ?_⟩
  refine ⟨_, rfl, _, rfl, by omega, by omega, fun _ => True, ring, _, fun i σ H' => ∃ z, σ = [some v1, some (.int n), some (.int (ring : Nat)), some (.ref D), z] ∧ Same H H' ∧ H' D = some (.lst (((List.range i).map f).map V.int)),
    src_rng0, ⟨none, rfl, same_new hD _, upd_same⟩, fun _ _ _ _ => True.intro, ?_, ?_⟩
  · rintro i _ H1 H2 hi ⟨z, rfl, g1, hL⟩ e
    refine ⟨_, rfl, ty_lst (e _ _ hL), _, rfl, _, rfl, _, rfl, _, rfl, _, rfl, v1, _, _, _, rfl, ps, (ring : Int), (i : Int), h.sm (g1.trans e), rfl, rfl, rfl, hl, by omega, by omega, fun H3 g3 => ?_⟩
    refine ⟨_, _, rfl, rfl, _, rfl, _, _, rfl, rfl, v1, _, _, rfl, ps, (ring : Int), _, h.sm (g1.trans (e.trans g3)), rfl, rfl, hne, hl, by omega, by omega, fun H4 g4 => ?_⟩
    have hL4 := g4 _ _ (g3 _ _ (e _ _ hL))
    refine ⟨D, _, _, rfl, rfl, hL4, ?_, _, rfl, same_put (g1.trans (e.trans (g3.trans g4))) hD, ?_⟩
    · rw [List.length_map, List.length_map, List.length_range, sizeLine_eq]
      omega
    · rw [upd_same, range_map_succ, List.map_append]
      rfl
  · rintro _ H1 ⟨z, rfl, g1, hL⟩
    refine ⟨_, rfl, D, _, rfl, .inl ⟨SqL.of hL, fun l hl => ?_⟩⟩
    exact q _ _ (g1.trans (same_new hl _)) ⟨l, rfl, by rw [upd_same]; rfl⟩
end Rw

namespace Rw
open PySem PySem.Spec PyProof.Rows L2

/-! ### data -/
def isNumD (d : PyData) : Bool := isInt d && !isBool d
def sp_is_number : Sp := fun vs H Q _ => ∃ v1, vs = [v1] ∧ ∃ d, Dr H d v1 ∧ ∀ H', Same H H' → Q (.bl (isNumD d)) H'
abbrev N_is_number : List Str := ["thing"]
abbrev s_is_number : Stmt := topS 5
theorem sc_is_number : FnScope N_is_number ["thing"] (defScope s_is_number) := ⟨rfl, rfl, rfl, by decide +kernel, rfl, by decide +kernel, by decide +kernel⟩
theorem ok_is_number {P : Program} {w : World} {K : PySem.W.Frag} {mg : Str → Option Value} {base : Heap} (Tt : Tx K mg "is_number" s_is_number ["thing"]) (Bt : Bi mg) :
    Fd P w K mg base "is_number" 1 1 sp_is_number := by
  refine Tt.ok sc_is_number (fun vs H Q E h => ?_) (fun f cdv A outer s H vs Q E hr h => ?_)
  · obtain ⟨_, rfl, _⟩ := h
    rfl
  obtain ⟨_, rfl, d, h, q⟩ := h
  refine ⟨_, pss_one (ps_ret (pe_and (e_isi K Bt (pv 0) Bt.int (by decide +kernel)) (pe_one (pe_not (e_isi K Bt (pv 0) Bt.bool (by decide +kernel)))))), ?_⟩
  refine ⟨_, rfl, isi_ok h (kit_int K d) ⟨_, rfl, iteB (fun hb => ?_) fun hb => ?_⟩⟩
  · refine ⟨_, rfl, isi_ok h (kit_bool K d) ⟨_, rfl, ?_⟩⟩
    have z := q _ (Same.refl _)
    unfold isNumD at z
    rw [hb] at z
    exact z
  · have z := q _ (Same.refl _)
    unfold isNumD at z
    rw [hb] at z
    exact z
def isFromD (d : PyData) (l : Int) : Bool := match d with | .int i => decide (l ≤ i) | _ => false
def sp_is_from : Sp := fun vs H Q _ => ∃ v1 v2, vs = [v1, v2] ∧ ∃ d l, Dr H d v1 ∧ v2 = .int l ∧ ∀ H', Same H H' → Q (.bl (isFromD d l)) H'
theorem isNum_cases : ∀ d : PyData, (∃ i, d = .int i) ∨ isNumD d = false
  | .int i => .inl ⟨i, rfl⟩
  | .none => .inr rfl
  | .bool _ => .inr rfl
  | .str _ => .inr rfl
  | .list _ => .inr rfl
  | .tuple _ => .inr rfl
  | .dict _ => .inr rfl
theorem isFrom_not {d : PyData} {l : Int} (h : isNumD d = false) : isFromD d l = false := by
  cases d <;> first | rfl | cases h
abbrev N_is_from : List Str := ["thing", "least"]
abbrev s_is_from : Stmt := topS 6
theorem sc_is_from : FnScope N_is_from ["thing", "least"] (defScope s_is_from) := ⟨rfl, rfl, rfl, by decide +kernel, rfl, by decide +kernel, by decide +kernel⟩
theorem ok_is_from {P : Program} {w : World} {K : PySem.W.Frag} {mg : Str → Option Value} {base : Heap} (Tt : Tx K mg "is_from" s_is_from ["thing", "least"]) (Bt : Bi mg) (F_is_number : Fd P w K mg base "is_number" 1 1 sp_is_number) :
    Fd P w K mg base "is_from" 2 2 sp_is_from := by
  refine Tt.ok sc_is_from (fun vs H Q E h => ?_) (fun f cdv A outer s H vs Q E hr h => ?_)
  · obtain ⟨_, _, rfl, _⟩ := h
    rfl
  obtain ⟨_, _, rfl, d, l, h, rfl, q⟩ := h
  refine ⟨_, pss_one (ps_ret (pe_and (pe_fn F_is_number hr (by decide) rfl (pa_cons (pv 0) (pa_nil))) (pe_one (pe_cmpR op_ge (pv 0) (pv 1) (nomark _))))), ?_⟩
  refine ⟨_, rfl, _, rfl, d, h, fun H1 g1 => ⟨_, rfl, ?_⟩⟩
  rcases isNum_cases d with ⟨i, rfl⟩ | hn
  · obtain rfl : _ = V.int i := h
    exact ⟨_, rfl, _, rfl, _, _, rfl, rfl, q _ g1⟩
  · rw [hn]
    have z := q _ g1
    rw [isFrom_not hn] at z
    exact z
mutual
/-- small, and no deeper than n -/
def okD : PyData → Nat → Bool
  | .list ds, n => match n with | 0 => false | n + 1 => decide (ds.length < 1000) && okDs ds n
  | .tuple ds, n => match n with | 0 => false | n + 1 => decide (ds.length < 1000) && okDs ds n
  | .dict _, _ => false
  | .none, _ => true
  | .bool _, _ => true
  | .int _, _ => true
  | .str _, _ => false
def okDs : List PyData → Nat → Bool
  | [], _ => true
  | d :: ds, n => okD d n && okDs ds n
end
mutual
def tupledD : PyData → PyData
  | .list ds => .tuple (tupledDs ds)
  | .tuple ds => .tuple (tupledDs ds)
  | .dict x => .dict x
  | .none => .none
  | .bool b => .bool b
  | .int i => .int i
  | .str s => .str s
def tupledDs : List PyData → List PyData
  | [] => []
  | d :: ds => tupledD d :: tupledDs ds
end
theorem tupledDs_map : ∀ ds : List PyData, tupledDs ds = ds.map tupledD
  | [] => by unfold tupledDs; rfl
  | d :: ds => by rw [tupledDs, List.map_cons, tupledDs_map ds]
mutual
theorem noL_tupled : ∀ (d : PyData) (n : Nat), okD d n = true → noL (tupledD d) = true
  | .list ds, 0, h => by simp [okD] at h
  | .list ds, n + 1, h => by
    have h' : ds.length < 1000 ∧ okDs ds n = true := by simpa [okD] using h
    rw [tupledD, noL]
    exact noL_tupleds ds n h'.2
  | .tuple ds, 0, h => by simp [okD] at h
  | .tuple ds, n + 1, h => by
    have h' : ds.length < 1000 ∧ okDs ds n = true := by simpa [okD] using h
    rw [tupledD, noL]
    exact noL_tupleds ds n h'.2
  | .dict _, _, h => by simp [okD] at h
  | .none, _, _ => by rw [tupledD, noL]
  | .bool _, _, _ => by rw [tupledD, noL]
  | .int _, _, _ => by rw [tupledD, noL]
  | .str _, _, _ => by rw [tupledD, noL]
theorem noL_tupleds : ∀ (ds : List PyData) (n : Nat), okDs ds n = true → noLs (tupledDs ds) = true
  | [], _, _ => by rw [tupledDs, noLs]
  | d :: ds, n, h => by
    have h' : okD d n = true ∧ okDs ds n = true := by simpa [okDs] using h
    rw [tupledDs, noLs, noL_tupled d n h'.1, noL_tupleds ds n h'.2]
    rfl
end
theorem okDs_at : ∀ {ds : List PyData} {n i : Nat} {d : PyData}, okDs ds n = true → ds[i]? = some d → okD d n = true
  | [], _, i, _, _, e => by simp at e
  | d :: ds, n, 0, d', h, e => by
    have h' : okD d n = true ∧ okDs ds n = true := by simpa [okDs] using h
    rw [← Option.some.inj e]
    exact h'.1
  | d :: ds, n, i + 1, d', h, e => by
    have h' : okD d n = true ∧ okDs ds n = true := by simpa [okDs] using h
    exact okDs_at (i := i) h'.2 (by simpa using e)
theorem drAll_getD {H : Hp} {ds : List PyData} {vs : List V} {i : Nat} (h : DrAll H ds vs) (hi : i < ds.length) : Dr H (ds.getD i .none) (vs.getD i .non) := by
  have e : ds[i]? = some ds[i] := List.getElem?_eq_getElem hi
  obtain ⟨v, h1, h2⟩ := drAll_at h e
  rw [getD_of e, getD_of h1]
  exact h2
theorem okDs_getD {ds : List PyData} {n i : Nat} (h : okDs ds n = true) (hi : i < ds.length) : okD (ds.getD i .none) n = true := by
  have e : ds[i]? = some ds[i] := List.getElem?_eq_getElem hi
  rw [getD_of e]
  exact okDs_at h e
/-- tupled, of what is no deeper than n -/
def spT (n : Nat) : Sp := fun vs H Q _ => ∃ v1, vs = [v1] ∧ ∃ d, Dr H d v1 ∧ okD d n = true ∧ ∀ v H', Same H H' → Dr H' (tupledD d) v → Q v H'
def sp_tupled : Sp := spT 7
/-- the list or tuple, turned -/
theorem tupled_end {H' : Hp} {D : Addr} {ds : List PyData} {ys : List V} {Q : VK} (hY : H' D = some (.lst ys)) (hp : Paired (rD H') ys ((List.range ds.length).filterMap fun i => some (tupledD (ds.getD i .none))))
    (q : ∀ v H2, Same H' H2 → Dr H2 (.tuple (tupledDs ds)) v → Q v H2) (l : Addr) (hl : H' l = none) : Q (.ref l) (upd H' l (.tup ys)) := by
  rw [fm_all ds .none (fun d => some (tupledD d)), fm_some, ← tupledDs_map] at hp
  exact q _ _ (same_new hl _) ⟨l, ys, rfl, upd_same, DrAll.sm (same_new hl _) _ _ (drAll_paired hp)⟩
theorem Dr.to {H : Hp} {d d' : PyData} {v : V} (h : Dr H d v) (e : d = d') : Dr H d' v := by rw [← e]; exact h
abbrev N_tupled : List Str := ["value", "own"]
abbrev s_tupled : Stmt := topS 7
theorem sc_tupled : FnScope N_tupled ["value"] (defScope s_tupled) := ⟨rfl, rfl, rfl, by decide +kernel, rfl, by decide +kernel, by decide +kernel⟩
theorem ok_tupled {P : Program} {w : World} {K : PySem.W.Frag} {mg : Str → Option Value} {base : Heap} (Tt : Tx K mg "tupled" s_tupled ["value"]) (Bt : Bi mg) (n : Nat) (F_tupled : ∀ m, n = m + 1 → Fd P w K mg base "tupled" 1 (m + 1) (spT m)) :
    Fd P w K mg base "tupled" 1 (n + 1) (spT n) := by
  refine Tt.ok sc_tupled (fun vs H Q E h => ?_) (fun f cdv A outer s H vs Q E hr h => ?_)
  · obtain ⟨_, rfl, _⟩ := h
    rfl
  obtain ⟨_, rfl, d, h, ho, q⟩ := h
  have plain : isLst d = false → isTup d = false → (∀ v, Dr H (tupledD d) v ↔ Dr H d v) := fun h1 h2 v => by
    cases d <;> first | exact absurd (show true = false from h1) (by decide) | exact absurd (show true = false from h2) (by decide) | rw [tupledD]
  have flat : (isLst d || isTup d) = false → (∀ v, Dr H (tupledD d) v ↔ Dr H d v) := fun e => by
    have e' : isLst d = false ∧ isTup d = false := by simpa using e
    exact plain e'.1 e'.2
  by_cases hd : (isLst d || isTup d) = false
  · refine ⟨_, pss_one (ps_ret (pe_ifExp (pt_val (e_isiT K Bt (pv 0) Bt.list (by decide +kernel) Bt.tuple (by decide +kernel))) pe_never (pv 0))), ?_⟩
    refine ⟨_, rfl, by decide, fun t ht => isiT_ok (h.sm (same_new ht _)) upd_same (kit_list K d) (kit_tuple K d) ⟨_, rfl, ?_⟩⟩
    rw [hd]
    exact ⟨_, rfl, q _ _ (same_new ht _) (Dr.sm (same_new ht _) _ _ ((flat hd _).mpr h))⟩
  have hd : (isLst d || isTup d) = true := by
    cases e : (isLst d || isTup d) with
    | false => exact absurd e hd
    | true => rfl
  cases n with
  | zero => cases d <;> first | exact absurd (show false = true from hd) (by decide) | (simp [okD] at ho; done)
  | succ m =>
  have F_tupled := F_tupled m rfl
  cases d with
  | list ds =>
    have ho' : ds.length < 1000 ∧ okDs ds m = true := by simpa [okD] using ho
    obtain ⟨a, vs, rfl, ha, hds⟩ := id h
    have hvl := drAll_len hds
    refine ⟨_, pss_one (ps_ret (pe_ifExp (pt_val (e_isiT K Bt (pv 0) Bt.list (by decide +kernel) Bt.tuple (by decide +kernel))) (e_tuple K Bt (pe_lcS (own := [("own", 1)]) rfl sc_tupled.nd (k_list K (pv 0)) (blkOk_by (N := N_tupled) (sc := defScope s_tupled) (by decide +kernel)) (fun _ _ _ _ _ => pg_name (i := 1) sc_tupled.nd rfl (Or.inl rfl)) (fun _ _ _ _ _ => pts_nil) (fun _ _ _ _ _ => pe_fn F_tupled hr (Nat.le_refl _) rfl (pa_cons (pv 1) (pa_nil))))) (pv 0))), ?_⟩
    refine ⟨_, rfl, by decide, fun t ht => isiT_ok (Dr.sm (same_new ht _) _ _ h) upd_same (kit_list K _) (kit_tuple K _) ⟨_, rfl, ?_⟩⟩
    have g0 : Same H (upd H t (.tup [.ty "list", .ty "tuple"])) := same_new ht _
    refine ⟨_, rfl, a, rfl, ⟨_, SqL.of (g0 _ _ ha)⟩, PyData, rD, _, _, _, fun i => some (tupledD (ds.getD i .none)), src_lst (xs := vs), by omega, fun H' g => SqL.of (g _ _ (g0 _ _ ha)), fun i hi => rfl,
      fun i hi H' g Q' q' => q' H' (Same.refl _), .inl ⟨sm_D, fun i b hi hb H' D g hD ⟨acc, hacc⟩ Q' q' => ?_⟩, fun D ys H' hD g hY _ hp => ?_⟩
    · have hi' : i < ds.length := by omega
      refine ⟨_, rfl, _, rfl, _, Dr.sm (g0.trans g) _ _ (drAll_getD hds hi'), okDs_getD ho'.2 hi', fun v H2 g2 r => q' _ _ g2 ?_⟩
      rw [← Option.some.inj hb]
      exact Dr.kp (hide_kp (g2 _ _ hacc)) _ _ (noL_tupled _ m (okDs_getD ho'.2 hi')) r
    · rw [hvl] at hp
      refine ⟨D, ys, rfl, .inl ⟨SqL.of hY, fun l hl => tupled_end hY hp (fun v H2 g2 r => q v H2 (g0.trans (g.trans g2)) ?_) l hl⟩⟩
      rw [tupledD]
      exact r
  | tuple ds =>
    have ho' : ds.length < 1000 ∧ okDs ds m = true := by simpa [okD] using ho
    obtain ⟨a, vs, rfl, ha, hds⟩ := id h
    have hvl := drAll_len hds
    refine ⟨_, pss_one (ps_ret (pe_ifExp (pt_val (e_isiT K Bt (pv 0) Bt.list (by decide +kernel) Bt.tuple (by decide +kernel))) (e_tuple K Bt (pe_lcS (own := [("own", 1)]) rfl sc_tupled.nd (k_tup K (pv 0)) (blkOk_by (N := N_tupled) (sc := defScope s_tupled) (by decide +kernel)) (fun _ _ _ _ _ => pg_name (i := 1) sc_tupled.nd rfl (Or.inl rfl)) (fun _ _ _ _ _ => pts_nil) (fun _ _ _ _ _ => pe_fn F_tupled hr (Nat.le_refl _) rfl (pa_cons (pv 1) (pa_nil))))) (pv 0))), ?_⟩
    refine ⟨_, rfl, by decide, fun t ht => isiT_ok (Dr.sm (same_new ht _) _ _ h) upd_same (kit_list K _) (kit_tuple K _) ⟨_, rfl, ?_⟩⟩
    have g0 : Same H (upd H t (.tup [.ty "list", .ty "tuple"])) := same_new ht _
    refine ⟨_, rfl, a, rfl, ⟨_, SqT.of (g0 _ _ ha)⟩, PyData, rD, _, _, _, fun i => some (tupledD (ds.getD i .none)), src_tup (xs := vs), by omega, fun H' g => SqT.of (g _ _ (g0 _ _ ha)), fun i hi => rfl,
      fun i hi H' g Q' q' => q' H' (Same.refl _), .inl ⟨sm_D, fun i b hi hb H' D g hD ⟨acc, hacc⟩ Q' q' => ?_⟩, fun D ys H' hD g hY _ hp => ?_⟩
    · have hi' : i < ds.length := by omega
      refine ⟨_, rfl, _, rfl, _, Dr.sm (g0.trans g) _ _ (drAll_getD hds hi'), okDs_getD ho'.2 hi', fun v H2 g2 r => q' _ _ g2 ?_⟩
      rw [← Option.some.inj hb]
      exact Dr.kp (hide_kp (g2 _ _ hacc)) _ _ (noL_tupled _ m (okDs_getD ho'.2 hi')) r
    · rw [hvl] at hp
      refine ⟨D, ys, rfl, .inl ⟨SqL.of hY, fun l hl => tupled_end hY hp (fun v H2 g2 r => q v H2 (g0.trans (g.trans g2)) ?_) l hl⟩⟩
      rw [tupledD]
      exact r
  | _ => exact absurd (show false = true from hd) (by decide)
theorem all_tupled {P : Program} {w : World} {K : PySem.W.Frag} {mg : Str → Option Value} {base : Heap} (Tt : Tx K mg "tupled" s_tupled ["value"]) (Bt : Bi mg) : ∀ n : Nat, Fd P w K mg base "tupled" 1 (n + 1) (spT n)
  | 0 => ok_tupled Tt Bt 0 fun m e => by cases e
  | n + 1 => ok_tupled Tt Bt (n + 1) fun m e => by
    cases e
    exact all_tupled Tt Bt n
end Rw

namespace Rw
open PySem PySem.Spec PyProof.Rows L2

/-! ### the law's lists, the law's same -/
mutual
def listsD : PyData → PyData
  | .list ds => .list (listsDs ds)
  | .tuple ds => .list (listsDs ds)
  | .dict x => .dict x
  | .none => .none
  | .bool b => .bool b
  | .int i => .int i
  | .str s => .str s
def listsDs : List PyData → List PyData
  | [] => []
  | d :: ds => listsD d :: listsDs ds
end
theorem listsDs_map : ∀ ds : List PyData, listsDs ds = ds.map listsD
  | [] => by unfold listsDs; rfl
  | d :: ds => by rw [listsDs, List.map_cons, listsDs_map ds]
/-- the same data as lists: all of them new -/
def spLs (n : Nat) : Sp := fun vs H Q _ => ∃ v1, vs = [v1] ∧ ∃ d, Dr H d v1 ∧ okD d n = true ∧ ∀ v H', Same H H' → Dr (newOf H H') (listsD d) v → Q v H'
def sp_lists_L : Sp := spLs 7
theorem lists_flat {d : PyData} (h : (isLst d || isTup d) = false) : listsD d = d := by
  cases d <;> first | (exact absurd (show true = false from h) (by decide)) | (rw [listsD])
theorem flat_any {d : PyData} {H H' : Hp} {v : V} (h : (isLst d || isTup d) = false) : Dr H d v → Dr H' d v := by
  cases d <;> first | (exact absurd (show true = false from h) (by decide)) | exact id
theorem ht_of {b : Bool} (h : ¬ b = false) : b = true := by
  cases b with
  | true => rfl
  | false => exact absurd rfl h
/-- what comes of the turns: lists new since B -/
def rN (B : Hp) : Rp PyData := fun H v d => Dr (newOf B H) d v
theorem sm_N (B : Hp) : SM (rN B) := fun _ _ v d e h => Dr.sm (newOf_same e) d v h
theorem lists_end {B H' : Hp} {D : Addr} {ds : List PyData} {ys : List V} (hB : B D = none) (hY : H' D = some (.lst ys)) (hp : Paired (rN B H') ys ((List.range ds.length).filterMap fun i => some (listsD (ds.getD i .none)))) :
    Dr (newOf B H') (.list (listsDs ds)) (.ref D) := by
  rw [fm_all ds .none (fun d => some (listsD d)), fm_some, ← listsDs_map] at hp
  exact ⟨D, ys, rfl, by rw [newOf_at hB]; exact hY, drAll_paired hp⟩
abbrev N_lists_L : List Str := ["_law_matter", "_law_bit"]
abbrev s_lists_L : Stmt := topS 43
theorem sc_lists_L : FnScope N_lists_L ["_law_matter"] (defScope s_lists_L) := ⟨rfl, rfl, rfl, by decide +kernel, rfl, by decide +kernel, by decide +kernel⟩
theorem ok_lists_L {P : Program} {w : World} {K : PySem.W.Frag} {mg : Str → Option Value} {base : Heap} (Tt : Tx K mg "_law_lists" s_lists_L ["_law_matter"]) (Bt : Bi mg) (n : Nat) (F_lists_L : ∀ m, n = m + 1 → Fd P w K mg base "_law_lists" 1 (m + 1) (spLs m)) :
    Fd P w K mg base "_law_lists" 1 (n + 1) (spLs n) := by
  refine Tt.ok sc_lists_L (fun vs H Q E h => ?_) (fun f cdv A outer s H vs Q E hr h => ?_)
  · obtain ⟨_, rfl, _⟩ := h
    rfl
  obtain ⟨_, rfl, d, h, ho, q⟩ := h
  by_cases hd : (isLst d || isTup d) = false
  · refine ⟨_, pss_one (ps_ret (pe_ifExp (pt_val (e_isiT K Bt (pv 0) Bt.list (by decide +kernel) Bt.tuple (by decide +kernel))) pe_never (pv 0))), ?_⟩
    refine ⟨_, rfl, by decide, fun t ht => isiT_ok (h.sm (same_new ht _)) upd_same (kit_list K d) (kit_tuple K d) ⟨_, rfl, ?_⟩⟩
    rw [hd]
    exact ⟨_, rfl, q _ _ (same_new ht _) (by rw [lists_flat hd]; exact flat_any hd h)⟩
  have hd := ht_of hd
  cases n with
  | zero => cases d <;> first | exact absurd (show false = true from hd) (by decide) | (simp [okD] at ho; done)
  | succ m =>
  have F_lists_L := F_lists_L m rfl
  cases d with
  | list ds =>
    have ho' : ds.length < 1000 ∧ okDs ds m = true := by simpa [okD] using ho
    obtain ⟨a, vs, rfl, ha, hds⟩ := id h
    have hvl := drAll_len hds
    refine ⟨_, pss_one (ps_ret (pe_ifExp (pt_val (e_isiT K Bt (pv 0) Bt.list (by decide +kernel) Bt.tuple (by decide +kernel))) (pe_lcS (own := [("_law_bit", 1)]) rfl sc_lists_L.nd (k_list K (pv 0)) (blkOk_by (N := N_lists_L) (sc := defScope s_lists_L) (by decide +kernel)) (fun _ _ _ _ _ => pg_name (i := 1) sc_lists_L.nd rfl (Or.inl rfl)) (fun _ _ _ _ _ => pts_nil) (fun _ _ _ _ _ => pe_fn F_lists_L hr (Nat.le_refl _) rfl (pa_cons (pv 1) (pa_nil)))) (pv 0))), ?_⟩
    refine ⟨_, rfl, by decide, fun t ht => isiT_ok (Dr.sm (same_new ht _) _ _ h) upd_same (kit_list K _) (kit_tuple K _) ⟨_, rfl, ?_⟩⟩
    have g0 : Same H (upd H t (.tup [.ty "list", .ty "tuple"])) := same_new ht _
    refine ⟨_, rfl, a, rfl, ⟨_, SqL.of (g0 _ _ ha)⟩, PyData, rN H, _, _, _, fun i => some (listsD (ds.getD i .none)), src_lst (xs := vs), by omega, fun H' g => SqL.of (g _ _ (g0 _ _ ha)), fun i hi => rfl,
      fun i hi H' g Q' q' => q' H' (Same.refl _), .inl ⟨sm_N H, fun i b hi hb H' D g hD ⟨acc, hacc⟩ Q' q' => ?_⟩, fun D ys H' hD g hY _ hp => ?_⟩
    · have hi' : i < ds.length := by omega
      refine ⟨_, rfl, _, rfl, _, Dr.sm (g0.trans g) _ _ (drAll_getD hds hi'), okDs_getD ho'.2 hi', fun v H2 g2 r => q' _ _ g2 ?_⟩
      rw [← Option.some.inj hb]
      exact Dr.sm (newOf_step (g0.trans g) hacc) _ _ r
    · rw [hvl] at hp
      refine q _ _ (g0.trans g) ?_
      rw [listsD]
      exact lists_end (g0.free hD) hY hp
  | tuple ds =>
    have ho' : ds.length < 1000 ∧ okDs ds m = true := by simpa [okD] using ho
    obtain ⟨a, vs, rfl, ha, hds⟩ := id h
    have hvl := drAll_len hds
    refine ⟨_, pss_one (ps_ret (pe_ifExp (pt_val (e_isiT K Bt (pv 0) Bt.list (by decide +kernel) Bt.tuple (by decide +kernel))) (pe_lcS (own := [("_law_bit", 1)]) rfl sc_lists_L.nd (k_tup K (pv 0)) (blkOk_by (N := N_lists_L) (sc := defScope s_lists_L) (by decide +kernel)) (fun _ _ _ _ _ => pg_name (i := 1) sc_lists_L.nd rfl (Or.inl rfl)) (fun _ _ _ _ _ => pts_nil) (fun _ _ _ _ _ => pe_fn F_lists_L hr (Nat.le_refl _) rfl (pa_cons (pv 1) (pa_nil)))) (pv 0))), ?_⟩
    refine ⟨_, rfl, by decide, fun t ht => isiT_ok (Dr.sm (same_new ht _) _ _ h) upd_same (kit_list K _) (kit_tuple K _) ⟨_, rfl, ?_⟩⟩
    have g0 : Same H (upd H t (.tup [.ty "list", .ty "tuple"])) := same_new ht _
    refine ⟨_, rfl, a, rfl, ⟨_, SqT.of (g0 _ _ ha)⟩, PyData, rN H, _, _, _, fun i => some (listsD (ds.getD i .none)), src_tup (xs := vs), by omega, fun H' g => SqT.of (g _ _ (g0 _ _ ha)), fun i hi => rfl,
      fun i hi H' g Q' q' => q' H' (Same.refl _), .inl ⟨sm_N H, fun i b hi hb H' D g hD ⟨acc, hacc⟩ Q' q' => ?_⟩, fun D ys H' hD g hY _ hp => ?_⟩
    · have hi' : i < ds.length := by omega
      refine ⟨_, rfl, _, rfl, _, Dr.sm (g0.trans g) _ _ (drAll_getD hds hi'), okDs_getD ho'.2 hi', fun v H2 g2 r => q' _ _ g2 ?_⟩
      rw [← Option.some.inj hb]
      exact Dr.sm (newOf_step (g0.trans g) hacc) _ _ r
    · rw [hvl] at hp
      refine q _ _ (g0.trans g) ?_
      rw [listsD]
      exact lists_end (g0.free hD) hY hp
  | _ => exact absurd (show false = true from hd) (by decide)
theorem all_lists_L {P : Program} {w : World} {K : PySem.W.Frag} {mg : Str → Option Value} {base : Heap} (Tt : Tx K mg "_law_lists" s_lists_L ["_law_matter"]) (Bt : Bi mg) : ∀ n : Nat, Fd P w K mg base "_law_lists" 1 (n + 1) (spLs n)
  | 0 => ok_lists_L Tt Bt 0 fun m e => by cases e
  | n + 1 => ok_lists_L Tt Bt (n + 1) fun m e => by
    cases e
    exact all_lists_L Tt Bt n
/-- the law's same, of twice the same data -/
def spSm (n : Nat) : Sp := fun vs H Q _ => ∃ v1 v2, vs = [v1, v2] ∧ ∃ d, Dr H d v1 ∧ Dr H d v2 ∧ okD d n = true ∧ ∀ H', Same H H' → Q (.bl true) H'
def sp_same_L : Sp := spSm 7
theorem all_true {bs : List Bool} (h : ∀ b ∈ bs, b = true) : bs.all id = true := List.all_eq_true.mpr fun b hb => h b hb
theorem all_same {n : Nat} {ys : List V} {H : Hp} (hp : Paired (rB H) ys ((List.range n).filterMap fun _ => some true)) : ∃ bs : List Bool, ys = bs.map V.bl ∧ bs.all id = true := by
  refine ⟨_, paired_B hp, all_true fun b hb => ?_⟩
  obtain ⟨i, _, hi⟩ := List.mem_filterMap.mp hb
  exact (Option.some.inj hi).symm
abbrev N_same_L : List Str := ["_law_got", "_law_due", "_law_mine", "_law_its"]
abbrev s_same_L : Stmt := topS 44
theorem sc_same_L : FnScope N_same_L ["_law_got", "_law_due"] (defScope s_same_L) := ⟨rfl, rfl, rfl, by decide +kernel, rfl, by decide +kernel, by decide +kernel⟩
theorem ok_same_L {P : Program} {w : World} {K : PySem.W.Frag} {mg : Str → Option Value} {base : Heap} (Tt : Tx K mg "_law_same" s_same_L ["_law_got", "_law_due"]) (Bt : Bi mg) (n : Nat) (F_same_L : ∀ m, n = m + 1 → Fd P w K mg base "_law_same" 2 (m + 1) (spSm m)) :
    Fd P w K mg base "_law_same" 2 (n + 1) (spSm n) := by
  refine Tt.ok sc_same_L (fun vs H Q E h => ?_) (fun f cdv A outer s H vs Q E hr h => ?_)
  · obtain ⟨_, _, rfl, _⟩ := h
    rfl
  obtain ⟨v1, v2, rfl, d, h1, h2, ho, q⟩ := h
  have r1 : ∀ {H' : Hp} {t : Addr} {b c : Bool} {Q : VK}, Same H H' → H' t = some (.tup [.ty "list", .ty "tuple"]) → isLst d = b → isTup d = c → Q (.bl (b || c)) H' → IsiTW K [v2, .ref t] H' Q := fun g ht hb hc q => by
    subst hb hc
    exact isiT_ok (Dr.sm g _ _ h2) ht (kit_list K d) (kit_tuple K d) q
  by_cases hd : (isLst d || isTup d) = false
  · refine ⟨_, pss_cons (ps_if (pt_val (e_isiT K Bt (pv 1) Bt.list (by decide +kernel) Bt.tuple (by decide +kernel))) pss_never (pss_nil))
    (pss_cons (ps_if (PW.pt (pw_or (pt_cmpR op_isN (pv 1) (pe_non) (nomark _)) (pw_or1 (pt_val (e_isiT K Bt (pv 1) Bt.bool (by decide +kernel) Bt.str (by decide +kernel)))))) (pss_one (ps_ret (pe_and (pe_cmpR op_eq (pv 0) (pv 1) (nomark _)) (pe_and (pe_cmpR op_eq (e_isi K Bt (pv 0) Bt.bool (by decide +kernel)) (e_isi K Bt (pv 1) Bt.bool (by decide +kernel)) (nomark _)) (pe_one (pe_cmpR op_eq (pe_cmpR op_isN (pv 0) (pe_non) (nomark _)) (pe_cmpR op_isN (pv 1) (pe_non) (nomark _)) (nomark _))))))) (pss_nil))
    (pss_one (ps_ret (pe_and (e_isi K Bt (pv 0) Bt.int (by decide +kernel)) (pe_and (pe_not (e_isi K Bt (pv 0) Bt.bool (by decide +kernel))) (pe_one (pe_cmpR op_eq (pv 0) (pv 1) (nomark _)))))))), ?_⟩
    refine ⟨_, rfl, by decide, fun t ht => isiT_ok (Dr.sm (same_new ht _) _ _ h2) upd_same (kit_list K d) (kit_tuple K d) ⟨_, rfl, ?_⟩⟩
    rw [hd]
    have g0 : Same H (upd H t (.tup [.ty "list", .ty "tuple"])) := same_new ht _
    cases d with
    | none =>
      obtain rfl : v1 = V.non := h1
      obtain rfl : v2 = V.non := h2
      refine ⟨_, rfl, rfl, _, rfl, ?_⟩
      refine ⟨_, rfl, _, rfl, rfl, _, rfl, _, rfl, isi_ok (d := .none) rfl (kit_bool K _) ⟨_, rfl, isi_ok (d := .none) rfl (kit_bool K _) ⟨rfl, _, rfl, _, rfl, rfl, _, rfl, rfl, rfl, q _ g0⟩⟩⟩
    | bool b =>
      obtain rfl : v1 = V.bl b := h1
      obtain rfl : v2 = V.bl b := h2
      refine ⟨_, rfl, rfl, _, rfl, _, rfl, by decide, fun t2 ht2 => isiT_ok (d := .bool b) rfl upd_same (kit_bool K _) (kit_str K _) ⟨_, rfl, ?_⟩⟩
      have g1 := g0.trans (same_new ht2 (.tup [.ty "bool", .ty "str"]))
      refine ⟨_, rfl, _, rfl, (by cases b <;> rfl), _, rfl, ?_⟩
      rw [decide_eq_true rfl]
      exact ⟨_, rfl, isi_ok (d := .bool b) rfl (kit_bool K _) ⟨_, rfl, isi_ok (d := .bool b) rfl (kit_bool K _) ⟨rfl, _, rfl, _, rfl, rfl, _, rfl, rfl, rfl, q _ g1⟩⟩⟩
    | int i =>
      obtain rfl : v1 = V.int i := h1
      obtain rfl : v2 = V.int i := h2
      refine ⟨_, rfl, rfl, _, rfl, _, rfl, by decide, fun t2 ht2 => isiT_ok (d := .int i) rfl upd_same (kit_bool K _) (kit_str K _) ⟨_, rfl, ?_⟩⟩
      have g1 := g0.trans (same_new ht2 (.tup [.ty "bool", .ty "str"]))
      refine ⟨_, rfl, isi_ok (d := .int i) rfl (kit_int K _) ⟨_, rfl, _, rfl, isi_ok (d := .int i) rfl (kit_bool K _) ⟨_, rfl, _, rfl, _, rfl, _, rfl, rfl, ?_⟩⟩⟩
      rw [decide_eq_true rfl]
      exact q _ g1
    | str x => simp [okD] at ho
    | dict x => simp [okD] at ho
    | list ds => exact absurd (show true = false from hd) (by decide)
    | tuple ds => exact absurd (show true = false from hd) (by decide)
  have hd := ht_of hd
  cases n with
  | zero => cases d <;> first | exact absurd (show false = true from hd) (by decide) | (simp [okD] at ho; done)
  | succ m =>
  have F_same_L := F_same_L m rfl
  refine ⟨_, pss_cons (ps_if (pt_val (e_isiT K Bt (pv 1) Bt.list (by decide +kernel) Bt.tuple (by decide +kernel))) (pss_cons (ps_if (PW.pt (pw_or (pt_cmpR op_ne (e_isi K Bt (pv 0) Bt.list (by decide +kernel)) (e_isi K Bt (pv 1) Bt.list (by decide +kernel)) (nomark _)) (pw_or1 (pt_cmpR op_ne (e_isi K Bt (pv 0) Bt.tuple (by decide +kernel)) (e_isi K Bt (pv 1) Bt.tuple (by decide +kernel)) (nomark _))))) (pss_one (ps_ret (pe_bl))) (pss_nil))
    (pss_one (ps_ret (pe_and (pe_cmpR op_eq (e_len K Bt (pv 0)) (e_len K Bt (pv 1)) (nomark _)) (pe_one (e_all K Bt (pe_lcS (own := [("_law_mine", 2), ("_law_its", 3)]) rfl sc_same_L.nd (k_zip K Bt (pa_cons (pv 0) (pa_cons (pv 1) (pa_nil)))) (blkOk_by (N := N_same_L) (sc := defScope s_same_L) (by decide +kernel)) (fun _ _ _ _ _ => k_tg K 2 rfl (pgs_cons (pg_name (i := 2) sc_same_L.nd rfl (Or.inl rfl)) (pgs_cons (pg_name (i := 3) sc_same_L.nd rfl (Or.inl rfl)) (pgs_nil)))) (fun _ _ _ _ _ => pts_nil) (fun _ _ _ _ _ => pe_fn F_same_L hr (Nat.le_refl _) rfl (pa_cons (pv 2) (pa_cons (pv 3) (pa_nil))))))))))) (pss_nil))
    (pss_cons (ps_if (PW.pt (pw_or (pt_cmpR op_isN (pv 1) (pe_non) (nomark _)) (pw_or1 (pt_val (e_isiT K Bt (pv 1) Bt.bool (by decide +kernel) Bt.str (by decide +kernel)))))) (pss_one (ps_ret (pe_and (pe_cmpR op_eq (pv 0) (pv 1) (nomark _)) (pe_and (pe_cmpR op_eq (e_isi K Bt (pv 0) Bt.bool (by decide +kernel)) (e_isi K Bt (pv 1) Bt.bool (by decide +kernel)) (nomark _)) (pe_one (pe_cmpR op_eq (pe_cmpR op_isN (pv 0) (pe_non) (nomark _)) (pe_cmpR op_isN (pv 1) (pe_non) (nomark _)) (nomark _))))))) (pss_nil))
    (pss_one (ps_ret (pe_and (e_isi K Bt (pv 0) Bt.int (by decide +kernel)) (pe_and (pe_not (e_isi K Bt (pv 0) Bt.bool (by decide +kernel))) (pe_one (pe_cmpR op_eq (pv 0) (pv 1) (nomark _)))))))), ?_⟩
  refine ⟨_, rfl, by decide, fun t ht => isiT_ok (Dr.sm (same_new ht _) _ _ h2) upd_same (kit_list K d) (kit_tuple K d) ⟨_, rfl, ?_⟩⟩
  rw [hd]
  have g0 : Same H (upd H t (.tup [.ty "list", .ty "tuple"])) := same_new ht _
  refine ⟨_, rfl, isi_ok (Dr.sm g0 _ _ h1) (kit_list K d) ⟨_, rfl, isi_ok (Dr.sm g0 _ _ h2) (kit_list K d) ⟨rfl, _, rfl, ?_⟩⟩⟩
  rw [decide_eq_true rfl]
  refine ⟨_, rfl, isi_ok (Dr.sm g0 _ _ h1) (kit_tuple K d) ⟨_, rfl, isi_ok (Dr.sm g0 _ _ h2) (kit_tuple K d) ⟨rfl, _, rfl, ?_⟩⟩⟩
  rw [decide_eq_true rfl]
  cases d with
  | list ds =>
    have ho' : ds.length < 1000 ∧ okDs ds m = true := by simpa [okD] using ho
    obtain ⟨a, vs, rfl, ha, hds⟩ := id h1
    obtain ⟨b, us, rfl, hb, hes⟩ := id h2
    have hvl := drAll_len hds
    have hul := drAll_len hes
    refine ⟨_, rfl, a, _, _, rfl, .inl (SqL.of (g0 _ _ ha)), rfl, _, rfl, b, _, _, rfl, .inl (SqL.of (g0 _ _ hb)), rfl, rfl, _, rfl, ?_⟩
    rw [hvl, hul, decide_eq_true rfl]
    refine ⟨_, rfl, _, rfl, a, b, vs, us, rfl, .inl ⟨SqL.of (g0 _ _ ha), SqL.of (g0 _ _ hb), Bool, rB, _, _, _, fun _ => some true, src_zipL, by omega, fun H' g => ⟨SqL.of (g _ _ (g0 _ _ ha)), SqL.of (g _ _ (g0 _ _ hb))⟩, fun i hi => rfl,
      fun i hi H' g Q' q' => q' H' (Same.refl _), .inr ⟨km_B, fun i b' hi hb' H' g Q' q' => ?_⟩, fun D ys H' hD g hY _ hp => ?_⟩⟩
    · have hi1 : i < ds.length := by omega
      exact ⟨_, rfl, _, rfl, _, _, rfl, _, Dr.sm (g0.trans g) _ _ (drAll_getD hds hi1), Dr.sm (g0.trans g) _ _ (drAll_getD hes hi1), okDs_getD ho'.2 hi1, fun H2 g2 => q' _ _ g2 (congrArg V.bl (Option.some.inj hb'))⟩
    · obtain ⟨bs, e1, e2⟩ := all_same hp
      refine ⟨D, bs, rfl, SqL.of (by rw [← e1]; exact hY), ?_⟩
      rw [e2]
      exact q _ (g0.trans g)
  | tuple ds =>
    have ho' : ds.length < 1000 ∧ okDs ds m = true := by simpa [okD] using ho
    obtain ⟨a, vs, rfl, ha, hds⟩ := id h1
    obtain ⟨b, us, rfl, hb, hes⟩ := id h2
    have hvl := drAll_len hds
    have hul := drAll_len hes
    refine ⟨_, rfl, a, _, _, rfl, .inr (SqT.of (g0 _ _ ha)), rfl, _, rfl, b, _, _, rfl, .inr (SqT.of (g0 _ _ hb)), rfl, rfl, _, rfl, ?_⟩
    rw [hvl, hul, decide_eq_true rfl]
    refine ⟨_, rfl, _, rfl, a, b, vs, us, rfl, .inr ⟨SqT.of (g0 _ _ ha), SqT.of (g0 _ _ hb), Bool, rB, _, _, _, fun _ => some true, src_zipT, by omega, fun H' g => ⟨SqT.of (g _ _ (g0 _ _ ha)), SqT.of (g _ _ (g0 _ _ hb))⟩, fun i hi => rfl,
      fun i hi H' g Q' q' => q' H' (Same.refl _), .inr ⟨km_B, fun i b' hi hb' H' g Q' q' => ?_⟩, fun D ys H' hD g hY _ hp => ?_⟩⟩
    · have hi1 : i < ds.length := by omega
      exact ⟨_, rfl, _, rfl, _, _, rfl, _, Dr.sm (g0.trans g) _ _ (drAll_getD hds hi1), Dr.sm (g0.trans g) _ _ (drAll_getD hes hi1), okDs_getD ho'.2 hi1, fun H2 g2 => q' _ _ g2 (congrArg V.bl (Option.some.inj hb'))⟩
    · obtain ⟨bs, e1, e2⟩ := all_same hp
      refine ⟨D, bs, rfl, SqL.of (by rw [← e1]; exact hY), ?_⟩
      rw [e2]
      exact q _ (g0.trans g)
  | _ => exact absurd (show false = true from hd) (by decide)
theorem all_same_L {P : Program} {w : World} {K : PySem.W.Frag} {mg : Str → Option Value} {base : Heap} (Tt : Tx K mg "_law_same" s_same_L ["_law_got", "_law_due"]) (Bt : Bi mg) : ∀ n : Nat, Fd P w K mg base "_law_same" 2 (n + 1) (spSm n)
  | 0 => ok_same_L Tt Bt 0 fun m e => by cases e
  | n + 1 => ok_same_L Tt Bt (n + 1) fun m e => by
    cases e
    exact all_same_L Tt Bt n
end Rw

namespace Rw
open PySem PySem.Spec PyProof.Rows L2

theorem dec_ne {i j : Int} (h : i ≠ j) : decide (V.int i = V.int j) = false := decide_eq_false fun e => h (V.int.inj e)
theorem dec_eq {i j : Int} (h : i = j) : decide (V.int i = V.int j) = true := by rw [h]; exact decide_eq_true rfl
theorem bl_of {Q : VK} {H : Hp} {p : Prop} [Decidable p] (h : p) (q : Q (.bl true) H) : Q (.bl (decide p)) H := by rw [decide_eq_true h]; exact q
/-! ### wheels and trains -/
def wheelP (ns : List Int) : Prop := ns ≠ [] ∧ (∀ i, i + 1 < ns.length → ns.getD i 0 ≤ ns.getD (i + 1) 0) ∧ ns.getD (ns.length - 1) 0 ≤ ns.getD 0 0 + (ns.length : Int)
theorem atI_end {ns : List Int} (h : ns ≠ []) : atI (ns.map V.int) (-1) = some (.int (ns.getD (ns.length - 1) 0)) := by
  have hp := pos_of_ne h
  have e : ns = ns.dropLast ++ [ns.getD (ns.length - 1) 0] := by
    rw [getD_of (List.getElem?_eq_getElem (by omega)), ← List.getLast_eq_getElem h]
    exact List.dropLast_concat_getLast h |>.symm
  rw [e, List.map_append]
  have z := atI_last (ns.dropLast.map V.int) (V.int (ns.getD (ns.length - 1) 0))
  rw [← e]
  exact z
theorem getD_drop1 (ns : List Int) (i : Nat) : (ns.drop 1).getD i 0 = ns.getD (i + 1) 0 := by
  rw [List.getD_eq_getElem?_getD, List.getD_eq_getElem?_getD, List.getElem?_drop, Nat.add_comm]
theorem getD_mapI {ns : List Int} {i : Nat} (h : i < ns.length) : (ns.map V.int).getD i .non = .int (ns.getD i 0) := by
  rw [List.getD_eq_getElem?_getD, List.getD_eq_getElem?_getD, List.getElem?_map, List.getElem?_eq_getElem h]
  rfl
def sp_is_wheel : Sp := fun vs H Q _ => ∃ v1, vs = [v1] ∧ ∃ ns, TI H v1 ns ∧ wheelP ns ∧ ns.length < 1000 ∧ ∀ H', Same H H' → Q (.bl true) H'
abbrev N_is_wheel : List Str := ["thing", "own", "near", "far"]
abbrev s_is_wheel : Stmt := topS 9
theorem sc_is_wheel : FnScope N_is_wheel ["thing"] (defScope s_is_wheel) := ⟨rfl, rfl, rfl, by decide +kernel, rfl, by decide +kernel, by decide +kernel⟩
theorem ok_is_wheel {P : Program} {w : World} {K : PySem.W.Frag} {mg : Str → Option Value} {base : Heap} (Tt : Tx K mg "is_wheel" s_is_wheel ["thing"]) (Bt : Bi mg) (F_is_number : Fd P w K mg base "is_number" 1 1 sp_is_number) :
    Fd P w K mg base "is_wheel" 1 2 sp_is_wheel := by
  refine Tt.ok sc_is_wheel (fun vs H Q E h => ?_) (fun f cdv A outer s H vs Q E hr h => ?_)
  · obtain ⟨_, rfl, _⟩ := h
    rfl
  obtain ⟨_, rfl, ns, h, ⟨hne, hup, hend⟩, hl, q⟩ := h
  refine ⟨_, pss_cons (ps_if (PW.pt (pw_or (pt_not (pt_val (e_isi K Bt (pv 0) Bt.tuple (by decide +kernel)))) (pw_or (pt_cmpR op_eq (e_len K Bt (pv 0)) (pe_int) (nomark _)) (pw_or1 (pt_not (pt_val (e_all K Bt (pe_lcS (own := [("own", 1)]) rfl sc_is_wheel.nd (k_tup K (pv 0)) (blkOk_by (N := N_is_wheel) (sc := defScope s_is_wheel) (by decide +kernel)) (fun _ _ _ _ _ => pg_name (i := 1) sc_is_wheel.nd rfl (Or.inl rfl)) (fun _ _ _ _ _ => pts_nil) (fun _ _ _ _ _ => pe_fn F_is_number hr (by decide) rfl (pa_cons (pv 1) (pa_nil))))))))))) (pss_one (ps_ret (pe_bl))) (pss_nil))
    (pss_cons (ps_if (pt_not (pt_val (e_all K Bt (pe_lcS (own := [("near", 2), ("far", 3)]) rfl sc_is_wheel.nd (k_zip K Bt (pa_cons (pv 0) (pa_cons (pe_slice (k_slT K) (pv 0) (po_some (pe_int)) (po_none)) (pa_nil)))) (blkOk_by (N := N_is_wheel) (sc := defScope s_is_wheel) (by decide +kernel)) (fun _ _ _ _ _ => k_tg K 2 rfl (pgs_cons (pg_name (i := 2) sc_is_wheel.nd rfl (Or.inl rfl)) (pgs_cons (pg_name (i := 3) sc_is_wheel.nd rfl (Or.inl rfl)) (pgs_nil)))) (fun _ _ _ _ _ => pts_nil) (fun _ _ _ _ _ => pe_cmpR op_le (pv 2) (pv 3) (nomark _)))))) (pss_one (ps_ret (pe_bl))) (pss_nil))
    (pss_one (ps_ret (pe_cmpR op_le (pe_ix (k_ixT K) (pv 0) (pe_un un_neg (pe_int)) (fun _ _ => rfl)) (pe_op op_add (pe_ix (k_ixT K) (pv 0) (pe_int) (fun _ _ => rfl)) (e_len K Bt (pv 0))) (nomark _))))), ?_⟩
  obtain ⟨a, rfl, ha⟩ := id h
  have hpos := pos_of_ne hne
  refine ⟨_, rfl, isi_ok (dr_TI.mpr h) (kit_tuple K _) ⟨_, rfl, iteF ?_⟩⟩
  refine ⟨_, rfl, a, _, _, rfl, .inr (SqT.of ha), len_int, rfl, _, rfl, ?_⟩
  rw [dec_ne (by omega)]
  refine ⟨_, rfl, a, rfl, ⟨_, SqT.of ha⟩, Bool, rB, _, _, _, fun _ => some true, src_tupI, by omega, fun H' g => SqT.of (g _ _ ha), fun i hi => rfl,
    fun i hi H' g Q' q' => q' H' (Same.refl _), .inr ⟨km_B, fun i b hi hb H' g Q' q' => ?_⟩, fun D ys H1 hD g1 hY _ hp => ?_⟩
  · exact ⟨_, rfl, _, rfl, .int (ns.getD i 0), rfl, fun H2 g2 => q' _ _ g2 (congrArg V.bl (Option.some.inj hb))⟩
  obtain ⟨bs, e1, e2⟩ := all_same hp
  refine ⟨D, bs, rfl, SqL.of (by rw [← e1]; exact hY), _, rfl, ?_⟩
  rw [e2]
  refine iteF ?_
  refine ⟨_, rfl, _, rfl, _, rfl, sl_from (k := 1) (h.sm g1).tv rfl (by rw [List.length_map]; omega) fun v H2 g2 t2 => ?_⟩
  obtain ⟨b, rfl, hb⟩ := t2
  have g12 := g1.trans g2
  refine ⟨a, b, ns.map V.int, (ns.map V.int).drop 1, rfl, .inr ⟨SqT.of (g12 _ _ ha), SqT.of hb, Bool, rB, _, _, _, fun _ => some true, src_zipT, ?_, fun H' g => ⟨SqT.of (g _ _ (g12 _ _ ha)), SqT.of (g _ _ hb)⟩, fun i hi => rfl,
    fun i hi H' g Q' q' => q' H' (Same.refl _), .inr ⟨km_B, fun i b hi hb H' g Q' q' => ?_⟩, fun D2 ys2 H3 hD2 g3 hY2 _ hp2 => ?_⟩⟩
  · rw [List.length_drop, List.length_map]
    omega
  · rw [List.length_drop, List.length_map] at hi
    have h1 : i < ns.length := by omega
    have h2 : i < (ns.drop 1).length := by rw [List.length_drop]; omega
    have e1 := getD_mapI h1
    have e2 := getD_mapI h2
    rw [List.map_drop, getD_drop1] at e2
    refine ⟨_, rfl, _, rfl, _, _, e1, e2, q' _ _ (Same.refl _) ?_⟩
    show V.bl (decide (ns.getD i 0 ≤ ns.getD (i + 1) 0)) = V.bl b
    rw [decide_eq_true (hup i (by omega)), ← Option.some.inj hb]
  obtain ⟨cs, e3, e4⟩ := all_same hp2
  refine ⟨D2, cs, rfl, SqL.of (by rw [← e3]; exact hY2), _, rfl, ?_⟩
  rw [e4]
  refine iteF ?_
  have ha3 := g3 _ _ (g12 _ _ ha)
  refine ⟨_, rfl, _, rfl, a, _, _, _, rfl, rfl, SqT.of ha3, atI_end hne, ?_⟩
  refine ⟨_, rfl, a, _, _, _, rfl, rfl, SqT.of ha3, atI_int (by decide) (by omega), ?_⟩
  refine ⟨_, rfl, a, _, _, rfl, .inr (SqT.of ha3), len_int, _, _, rfl, rfl, _, _, rfl, rfl, ?_⟩
  exact bl_of (Q := Q) hend (q _ (g12.trans g3))
def trainP (rs : List (List Int)) : Prop := rs ≠ [] ∧ rs.length < 1000 ∧ (∀ r ∈ rs, wheelP r ∧ r.length < 1000) ∧ ∀ r ∈ rs, r.length = (rs.getD 0 []).length
def sp_is_train : Sp := fun vs H Q _ => ∃ v1, vs = [v1] ∧ ∃ rs, TL TI H v1 rs ∧ trainP rs ∧ ∀ H', Same H H' → Q (.bl true) H'
theorem paired_getD {H : Hp} {vs : List V} {rs : List (List Int)} {i : Nat} (h : Paired (TI H) vs rs) (hi : i < rs.length) : TI H (vs.getD i .non) (rs.getD i []) ∧ rs.getD i [] ∈ rs := by
  have e : rs[i]? = some rs[i] := List.getElem?_eq_getElem hi
  obtain ⟨v, h1, h2⟩ := paired_at h e
  rw [getD_of e, getD_of h1]
  exact ⟨h2, List.getElem_mem hi⟩
theorem atI_get0 {vs : List V} {i : Int} (h0 : 0 ≤ i) (h1 : i < (vs.length : Int)) : atI vs i = some (vs.getD i.toNat .non) := by
  have hlt : i.toNat < vs.length := by omega
  refine at_of (j := i.toNat) (by omega) ?_
  rw [List.getD_eq_getElem?_getD, List.getElem?_eq_getElem hlt]
  rfl
abbrev N_is_train : List Str := ["thing", "own"]
abbrev s_is_train : Stmt := topS 10
theorem sc_is_train : FnScope N_is_train ["thing"] (defScope s_is_train) := ⟨rfl, rfl, rfl, by decide +kernel, rfl, by decide +kernel, by decide +kernel⟩
theorem ok_is_train {P : Program} {w : World} {K : PySem.W.Frag} {mg : Str → Option Value} {base : Heap} (Tt : Tx K mg "is_train" s_is_train ["thing"]) (Bt : Bi mg) (F_is_wheel : Fd P w K mg base "is_wheel" 1 2 sp_is_wheel) :
    Fd P w K mg base "is_train" 1 3 sp_is_train := by
  refine Tt.ok sc_is_train (fun vs H Q E h => ?_) (fun f cdv A outer s H vs Q E hr h => ?_)
  · obtain ⟨_, rfl, _⟩ := h
    rfl
  obtain ⟨_, rfl, rs, h, ⟨hne, hz, hw, hlen⟩, q⟩ := h
  refine ⟨_, pss_cons (ps_if (PW.pt (pw_or (pt_not (pt_val (e_isi K Bt (pv 0) Bt.tuple (by decide +kernel)))) (pw_or (pt_cmpR op_eq (e_len K Bt (pv 0)) (pe_int) (nomark _)) (pw_or1 (pt_not (pt_val (e_all K Bt (pe_lcS (own := [("own", 1)]) rfl sc_is_train.nd (k_tup K (pv 0)) (blkOk_by (N := N_is_train) (sc := defScope s_is_train) (by decide +kernel)) (fun _ _ _ _ _ => pg_name (i := 1) sc_is_train.nd rfl (Or.inl rfl)) (fun _ _ _ _ _ => pts_nil) (fun _ _ _ _ _ => pe_fn F_is_wheel hr (by decide) rfl (pa_cons (pv 1) (pa_nil))))))))))) (pss_one (ps_ret (pe_bl))) (pss_nil))
    (pss_one (ps_ret (e_all K Bt (pe_lcS (own := [("own", 1)]) rfl sc_is_train.nd (k_tup K (pv 0)) (blkOk_by (N := N_is_train) (sc := defScope s_is_train) (by decide +kernel)) (fun _ _ _ _ _ => pg_name (i := 1) sc_is_train.nd rfl (Or.inl rfl)) (fun _ _ _ _ _ => pts_nil) (fun _ _ _ _ _ => pe_cmpR op_eq (e_len K Bt (pv 1)) (e_len K Bt (pe_ix (k_ixT K) (pv 0) (pe_int) (fun _ _ => rfl))) (nomark _)))))), ?_⟩
  obtain ⟨a, vs, rfl, ha, hvs⟩ := id h
  have hpos := pos_of_ne hne
  have hvl := paired_len hvs
  refine ⟨_, rfl, isi_ok (dr_TT.mpr h) (kit_tuple K _) ⟨_, rfl, iteF ?_⟩⟩
  refine ⟨_, rfl, a, _, _, rfl, .inr (SqT.of ha), rfl, rfl, _, rfl, ?_⟩
  rw [dec_ne (by omega)]
  refine ⟨_, rfl, a, rfl, ⟨_, SqT.of ha⟩, Bool, rB, _, _, _, fun _ => some true, src_tup (xs := vs), by omega, fun H' g => SqT.of (g _ _ ha), fun i hi => rfl,
    fun i hi H' g Q' q' => q' H' (Same.refl _), .inr ⟨km_B, fun i b hi hb H' g Q' q' => ?_⟩, fun D ys H1 hD g1 hY _ hp => ?_⟩
  · obtain ⟨t, m⟩ := paired_getD hvs (i := i) (by omega)
    exact ⟨_, rfl, _, rfl, _, t.sm g, (hw _ m).1, (hw _ m).2, fun H2 g2 => q' _ _ g2 (congrArg V.bl (Option.some.inj hb))⟩
  obtain ⟨bs, e1, e2⟩ := all_same hp
  refine ⟨D, bs, rfl, SqL.of (by rw [← e1]; exact hY), _, rfl, ?_⟩
  rw [e2]
  refine iteF ?_
  refine ⟨_, rfl, a, rfl, ⟨_, SqT.of (g1 _ _ ha)⟩, Bool, rB, _, _, _, fun _ => some true, src_tup (xs := vs), by omega, fun H' g => SqT.of (g _ _ (g1 _ _ ha)), fun i hi => rfl,
    fun i hi H' g Q' q' => q' H' (Same.refl _), .inr ⟨km_B, fun i b hi hb H' g Q' q' => ?_⟩, fun D2 ys2 H2 hD2 g2 hY2 _ hp2 => ?_⟩
  · have g' := g1.trans g
    obtain ⟨⟨c, ec, hc⟩, m⟩ := paired_getD hvs (i := i) (by omega)
    obtain ⟨⟨c0, ec0, hc0⟩, m0⟩ := paired_getD hvs (i := 0) (by omega)
    refine ⟨_, rfl, c, _, _, congrArg (fun z => [z]) ec, .inr (SqT.of (g' _ _ hc)), len_int, _, rfl, a, _, _, _, rfl, rfl, SqT.of (g' _ _ ha), atI_get0 (by decide) (by omega), c0, _, _, congrArg (fun z => [z]) ec0, .inr (SqT.of (g' _ _ hc0)), len_int, rfl, q' _ _ (Same.refl _) ?_⟩
    rw [dec_eq (by rw [hlen _ m, hlen _ m0]), ← Option.some.inj hb]
    rfl
  obtain ⟨cs, e3, e4⟩ := all_same hp2
  refine ⟨D2, cs, rfl, SqL.of (by rw [← e3]; exact hY2), ?_⟩
  rw [e4]
  exact q _ (g1.trans g2)
def sp_sure_train : Sp := fun vs H Q _ => ∃ v1, vs = [v1] ∧ ∃ d rs, Dr H d v1 ∧ okD d 7 = true ∧ tupledD d = tR rs ∧ trainP rs ∧ ∀ v H', Same H H' → TL TI H' v rs → Q v H'
abbrev N_sure_train : List Str := ["train", "own"]
abbrev s_sure_train : Stmt := topS 11
theorem sc_sure_train : FnScope N_sure_train ["train"] (defScope s_sure_train) := ⟨rfl, rfl, rfl, by decide +kernel, rfl, by decide +kernel, by decide +kernel⟩
theorem ok_sure_train {P : Program} {w : World} {K : PySem.W.Frag} {mg : Str → Option Value} {base : Heap} (Tt : Tx K mg "sure_train" s_sure_train ["train"]) (Bt : Bi mg) (F_tupled : Fd P w K mg base "tupled" 1 8 sp_tupled) (F_is_train : Fd P w K mg base "is_train" 1 3 sp_is_train) :
    Fd P w K mg base "sure_train" 1 9 sp_sure_train := by
  refine Tt.ok sc_sure_train (fun vs H Q E h => ?_) (fun f cdv A outer s H vs Q E hr h => ?_)
  · obtain ⟨_, rfl, _⟩ := h
    rfl
  obtain ⟨_, rfl, d, rs, h, ho, e, ht, q⟩ := h
  refine ⟨_, pss_cons (ps_set (i := 1) sc_sure_train.nd rfl (Or.inl rfl) (pe_fn F_tupled hr (by decide) rfl (pa_cons (pv 0) (pa_nil))))
    (pss_cons (ps_if (pt_not (pt_val (pe_fn F_is_train hr (by decide) rfl (pa_cons (pv 1) (pa_nil))))) (pss_never) (pss_nil))
    (pss_one (ps_ret (pv 1)))), ?_⟩
  refine ⟨_, rfl, _, rfl, d, h, ho, fun v H1 g1 r => ?_⟩
  rw [e] at r
  have t := dr_TT.mp r
  refine ⟨_, rfl, _, rfl, rs, t, ht, fun H2 g2 => ⟨_, rfl, iteF ?_⟩⟩
  exact ⟨_, rfl, q _ _ (g1.trans g2) (km_TL km_TI _ _ _ _ (Kp.of g2) t)⟩
end Rw

namespace Rw
open PySem PySem.Spec PyProof.Rows L2

/-! ### words -/
def intsOf : List PyData → Option (List Int)
  | [] => some []
  | .int i :: ds => (intsOf ds).map (i :: ·)
  | _ :: _ => none
/-- each once -/
def dd (ns : List Int) : List Int := ns.foldr (fun n acc => if n ∈ acc then acc else n :: acc) []
def maxM : List Int → Int
  | [] => 0
  | n :: ns => ns.foldl max n
def isWordI (ns : List Int) : Bool := decide (ns ≠ []) && ns.all (fun n => decide (0 ≤ n)) && decide (((dd ns).length : Int) = maxM ns + 1)
def isWordD : PyData → Bool
  | .tuple ds => match intsOf ds with
    | some ns => isWordI ns
    | none => false
  | _ => false
theorem intsOf_map : ∀ ns : List Int, intsOf (ns.map PyData.int) = some ns
  | [] => rfl
  | n :: ns => by
    show (intsOf (ns.map PyData.int)).map (n :: ·) = _
    rw [intsOf_map ns]
    rfl
theorem intsOf_some : ∀ {ds : List PyData} {ns : List Int}, intsOf ds = some ns → ds = ns.map PyData.int
  | [], ns, h => by
    have e := Option.some.inj h
    rw [← e]
    rfl
  | .int i :: ds, ns, h => by
    have h' : (intsOf ds).map (i :: ·) = some ns := h
    cases e : intsOf ds with
    | none => rw [e] at h'; cases h'
    | some ms =>
      rw [e] at h'
      rw [← Option.some.inj h', intsOf_some e]
      rfl
  | .none :: ds, ns, h => by cases h
  | .bool _ :: ds, ns, h => by cases h
  | .str _ :: ds, ns, h => by cases h
  | .list _ :: ds, ns, h => by cases h
  | .tuple _ :: ds, ns, h => by cases h
  | .dict _ :: ds, ns, h => by cases h
theorem from_ints : ∀ ds : List PyData, (ds.map fun d => isFromD d 0).all id = true ↔ ∃ ns, intsOf ds = some ns ∧ ns.all (fun n => decide (0 ≤ n)) = true
  | [] => ⟨fun _ => ⟨[], rfl, rfl⟩, fun _ => rfl⟩
  | .int i :: ds => by
    have ih := from_ints ds
    have e : ((PyData.int i :: ds).map fun d => isFromD d 0).all id = (decide (0 ≤ i) && (ds.map fun d => isFromD d 0).all id) := rfl
    rw [e, Bool.and_eq_true, ih]
    constructor
    · rintro ⟨h1, ns, h2, h3⟩
      refine ⟨i :: ns, ?_, ?_⟩
      · show (intsOf ds).map (i :: ·) = _
        rw [h2]
        rfl
      · rw [List.all_cons, h1, h3]
        rfl
    · rintro ⟨ns, h2, h3⟩
      have h2' : (intsOf ds).map (i :: ·) = some ns := h2
      cases e2 : intsOf ds with
      | none => rw [e2] at h2'; cases h2'
      | some ms =>
        rw [e2] at h2'
        have e3 := Option.some.inj h2'
        rw [← e3, List.all_cons, Bool.and_eq_true] at h3
        exact ⟨h3.1, ms, rfl, h3.2⟩
  | .none :: ds => ⟨(fun h => by cases h), (fun ⟨_, h, _⟩ => by cases h)⟩
  | .bool _ :: ds => ⟨(fun h => by cases h), (fun ⟨_, h, _⟩ => by cases h)⟩
  | .str _ :: ds => ⟨(fun h => by cases h), (fun ⟨_, h, _⟩ => by cases h)⟩
  | .list _ :: ds => ⟨(fun h => by cases h), (fun ⟨_, h, _⟩ => by cases h)⟩
  | .tuple _ :: ds => ⟨(fun h => by cases h), (fun ⟨_, h, _⟩ => by cases h)⟩
  | .dict _ :: ds => ⟨(fun h => by cases h), (fun ⟨_, h, _⟩ => by cases h)⟩
theorem nodup_le {α : Type} [BEq α] [LawfulBEq α] : ∀ (l m : List α), l.Nodup → (∀ x, x ∈ l → x ∈ m) → l.length ≤ m.length
  | [], _, _, _ => Nat.zero_le _
  | x :: l, m, nd, h => by
    have hx : x ∈ m := h x List.mem_cons_self
    have nd' := List.nodup_cons.mp nd
    have z := nodup_le l (m.erase x) nd'.2 fun y hy => (List.mem_erase_of_ne (fun e => nd'.1 (by rw [← e]; exact hy))).mpr (h y (List.mem_cons_of_mem _ hy))
    rw [List.length_erase_of_mem hx] at z
    have := List.length_pos_of_mem hx
    rw [List.length_cons]
    omega
theorem dd_mem (ns : List Int) (k : Int) : k ∈ dd ns ↔ k ∈ ns := by
  induction ns with
  | nil => exact Iff.rfl
  | cons n ns ih =>
    have e : dd (n :: ns) = if n ∈ dd ns then dd ns else n :: dd ns := rfl
    rw [e, List.mem_cons]
    split
    · rename_i h
      rw [ih]
      constructor
      · exact .inr
      · rintro (e | e)
        · subst e
          exact ih.mp h
        · exact e
    · rw [List.mem_cons, ih]
theorem dd_nodup (ns : List Int) : (dd ns).Nodup := by
  induction ns with
  | nil => exact List.nodup_nil
  | cons n ns ih =>
    have e : dd (n :: ns) = if n ∈ dd ns then dd ns else n :: dd ns := rfl
    rw [e]
    split
    · exact ih
    · rename_i h
      exact List.nodup_cons.mpr ⟨h, ih⟩
theorem dd_len {ns ks : List Int} (nd : ks.Nodup) (h : ∀ k, k ∈ ks ↔ k ∈ ns) : ks.length = (dd ns).length :=
  Nat.le_antisymm (nodup_le _ _ nd fun x hx => (dd_mem ns x).mpr ((h x).mp hx)) (nodup_le _ _ (dd_nodup ns) fun x hx => (h x).mpr ((dd_mem ns x).mp hx))
def sp_is_word : Sp := fun vs H Q _ => ∃ v1, vs = [v1] ∧ ∃ d, Dr H d v1 ∧ okD d 7 = true ∧ ∀ H', Same H H' → Q (.bl (isWordD d)) H'
abbrev N_is_word : List Str := ["thing", "own"]
abbrev s_is_word : Stmt := topS 22
theorem sc_is_word : FnScope N_is_word ["thing"] (defScope s_is_word) := ⟨rfl, rfl, rfl, by decide +kernel, rfl, by decide +kernel, by decide +kernel⟩
theorem ok_is_word {P : Program} {w : World} {K : PySem.W.Frag} {mg : Str → Option Value} {base : Heap} (Tt : Tx K mg "is_word" s_is_word ["thing"]) (Bt : Bi mg) (F_is_from : Fd P w K mg base "is_from" 2 2 sp_is_from) :
    Fd P w K mg base "is_word" 1 3 sp_is_word := by
  refine Tt.ok sc_is_word (fun vs H Q E h => ?_) (fun f cdv A outer s H vs Q E hr h => ?_)
  · obtain ⟨_, rfl, _⟩ := h
    rfl
  obtain ⟨_, rfl, d, h, ho, q⟩ := h
  refine ⟨_, pss_cons (ps_if (PW.pt (pw_or (pt_not (pt_val (e_isi K Bt (pv 0) Bt.tuple (by decide +kernel)))) (pw_or (pt_cmpR op_eq (e_len K Bt (pv 0)) (pe_int) (nomark _)) (pw_or1 (pt_not (pt_val (e_all K Bt (pe_lcS (own := [("own", 1)]) rfl sc_is_word.nd (k_tup K (pv 0)) (blkOk_by (N := N_is_word) (sc := defScope s_is_word) (by decide +kernel)) (fun _ _ _ _ _ => pg_name (i := 1) sc_is_word.nd rfl (Or.inl rfl)) (fun _ _ _ _ _ => pts_nil) (fun _ _ _ _ _ => pe_fn F_is_from hr (by decide) rfl (pa_cons (pv 1) (pa_cons (pe_int) (pa_nil)))))))))))) (pss_one (ps_ret (pe_bl))) (pss_nil))
    (pss_one (ps_ret (pe_cmpR op_eq (lenset Bt (pv 0)) (pe_op op_add (e_maxT K Bt hr (pv 0)) (pe_int)) (nomark _)))), ?_⟩
  refine ⟨_, rfl, isi_ok h (kit_tuple K d) ⟨_, rfl, ?_⟩⟩
  by_cases hd : isTup d = false
  · rw [hd]
    have e : isWordD d = false := by
      cases d <;> first | rfl | exact absurd (show true = false from hd) (by decide)
    rw [e] at q
    exact q _ (Same.refl _)
  have hd := ht_of hd
  rw [hd]
  cases d with
  | tuple ds =>
    have ho' : ds.length < 1000 ∧ okDs ds 6 = true := by simpa [okD] using ho
    obtain ⟨a, vs, rfl, ha, hds⟩ := id h
    have hvl := drAll_len hds
    refine iteF ?_
    refine ⟨_, rfl, a, _, _, rfl, .inr (SqT.of ha), rfl, rfl, _, rfl, ?_⟩
    by_cases hz : ds = []
    · subst hz
      rw [dec_eq (by rw [hvl]; rfl)]
      exact q _ (Same.refl _)
    have hpos := pos_of_ne hz
    rw [dec_ne (by omega)]
    refine ⟨_, rfl, a, rfl, ⟨_, SqT.of ha⟩, Bool, rB, _, _, _, fun i => some (isFromD (ds.getD i .none) 0), src_tup (xs := vs), by omega, fun H' g => SqT.of (g _ _ ha), fun i hi => rfl,
      fun i hi H' g Q' q' => q' H' (Same.refl _), .inr ⟨km_B, fun i b hi hb H' g Q' q' => ?_⟩, fun D ys H1 hD g1 hY _ hp => ?_⟩
    · exact ⟨_, rfl, _, _, rfl, _, 0, Dr.sm g _ _ (drAll_getD hds (i := i) (by omega)), rfl, fun H2 g2 => q' _ _ g2 (congrArg V.bl (Option.some.inj hb))⟩
    rw [hvl, fm_all ds .none (fun d => some (isFromD d 0)), fm_some] at hp
    refine ⟨D, _, rfl, SqL.of (by rw [← paired_B hp]; exact hY), _, rfl, ?_⟩
    by_cases hb : (ds.map fun d => isFromD d 0).all id = true
    · rw [hb]
      refine iteF ?_
      obtain ⟨ns, hn, hn0⟩ := (from_ints ds).mp hb
      have e : ds = ns.map PyData.int := intsOf_some hn
      subst e
      rw [(drAll_ints ns vs).mp hds] at ha
      have ha1 := g1 _ _ ha
      rw [List.length_map] at ho' hpos
      refine ⟨_, rfl, a, ns, rfl, SqT.of ha1, by omega, fun ks nd hks => ?_⟩
      cases ns with
      | nil => exact absurd hpos (by decide)
      | cons n ns =>
        refine ⟨_, rfl, a, n, ns, rfl, SqT.of ha1, _, _, rfl, rfl, rfl, ?_⟩
        have z := q _ g1
        have e : isWordD (.tuple ((n :: ns).map PyData.int)) = decide (V.int ((ks.length : Nat) : Int) = V.int (ns.foldl max n + 1)) := by
          show (match intsOf ((n :: ns).map PyData.int) with | some ns => isWordI ns | none => false) = _
          rw [intsOf_map]
          show isWordI (n :: ns) = _
          unfold isWordI
          rw [hn0, decide_eq_true (show n :: ns ≠ [] from fun e => by cases e), dd_len nd hks]
          show decide (((dd (n :: ns)).length : Int) = ns.foldl max n + 1) = _
          rw [Bool.eq_iff_iff]
          simp
        rw [e] at z
        exact z
    · have hb' : (ds.map fun d => isFromD d 0).all id = false := by
        cases e : (ds.map fun d => isFromD d 0).all id with
        | true => exact absurd e hb
        | false => rfl
      rw [hb']
      have z := q _ g1
      have e : isWordD (.tuple ds) = false := by
        show (match intsOf ds with | some ns => isWordI ns | none => false) = false
        cases hn : intsOf ds with
        | none => rfl
        | some ns =>
          show isWordI ns = false
          have n0 : ns.all (fun n => decide (0 ≤ n)) ≠ true := fun w => hb ((from_ints ds).mpr ⟨ns, hn, w⟩)
          unfold isWordI
          have n1 : ns.all (fun n => decide (0 ≤ n)) = false := by
            cases e : ns.all (fun n => decide (0 ≤ n)) with
            | true => exact absurd e n0
            | false => rfl
          rw [n1, Bool.and_false, Bool.false_and]
      rw [e] at z
      exact z
  | _ => exact absurd (show false = true from hd) (by decide)
def sp_is_row : Sp := sp_is_word
abbrev N_is_row : List Str := ["thing"]
abbrev s_is_row : Stmt := topS 28
theorem sc_is_row : FnScope N_is_row ["thing"] (defScope s_is_row) := ⟨rfl, rfl, rfl, by decide +kernel, rfl, by decide +kernel, by decide +kernel⟩
theorem ok_is_row {P : Program} {w : World} {K : PySem.W.Frag} {mg : Str → Option Value} {base : Heap} (Tt : Tx K mg "is_row" s_is_row ["thing"]) (Bt : Bi mg) (F_is_word : Fd P w K mg base "is_word" 1 3 sp_is_word) :
    Fd P w K mg base "is_row" 1 4 sp_is_row := by
  refine Tt.ok sc_is_row (fun vs H Q E h => ?_) (fun f cdv A outer s H vs Q E hr h => ?_)
  · obtain ⟨_, rfl, _⟩ := h
    rfl
  obtain ⟨_, rfl, d, h, ho, q⟩ := h
  refine ⟨_, pss_one (ps_ret (pe_fn F_is_word hr (by decide) rfl (pa_cons (pv 0) (pa_nil)))), ?_⟩
  exact ⟨_, rfl, _, rfl, d, h, ho, q⟩
mutual
theorem okD_tupled : ∀ (d : PyData) (n : Nat), okD d n = true → okD (tupledD d) n = true
  | .list ds, 0, h => by simp [okD] at h
  | .list ds, n + 1, h => by
    have h' : ds.length < 1000 ∧ okDs ds n = true := by simpa [okD] using h
    rw [tupledD, okD, okDs_tupled ds n h'.2, tupledDs_map, List.length_map, decide_eq_true h'.1]
    rfl
  | .tuple ds, 0, h => by simp [okD] at h
  | .tuple ds, n + 1, h => by
    have h' : ds.length < 1000 ∧ okDs ds n = true := by simpa [okD] using h
    rw [tupledD, okD, okDs_tupled ds n h'.2, tupledDs_map, List.length_map, decide_eq_true h'.1]
    rfl
  | .dict _, _, h => by simp [okD] at h
  | .none, _, h => h
  | .bool _, _, h => h
  | .int _, _, h => h
  | .str _, _, h => by simp [okD] at h
theorem okDs_tupled : ∀ (ds : List PyData) (n : Nat), okDs ds n = true → okDs (tupledDs ds) n = true
  | [], _, h => h
  | d :: ds, n, h => by
    have h' : okD d n = true ∧ okDs ds n = true := by simpa [okDs] using h
    rw [tupledDs, okDs, okD_tupled d n h'.1, okDs_tupled ds n h'.2]
    rfl
end
theorem isWordD_tI (ns : List Int) : isWordD (tI ns) = isWordI ns := by
  show (match intsOf (ns.map PyData.int) with | some ns => isWordI ns | none => false) = _
  rw [intsOf_map]
def sp_sure_word : Sp := fun vs H Q _ => ∃ v1, vs = [v1] ∧ ∃ d ns, Dr H d v1 ∧ okD d 7 = true ∧ tupledD d = tI ns ∧ isWordI ns = true ∧ ∀ v H', Same H H' → TI H' v ns → Q v H'
abbrev N_sure_word : List Str := ["word", "own"]
abbrev s_sure_word : Stmt := topS 23
theorem sc_sure_word : FnScope N_sure_word ["word"] (defScope s_sure_word) := ⟨rfl, rfl, rfl, by decide +kernel, rfl, by decide +kernel, by decide +kernel⟩
theorem ok_sure_word {P : Program} {w : World} {K : PySem.W.Frag} {mg : Str → Option Value} {base : Heap} (Tt : Tx K mg "sure_word" s_sure_word ["word"]) (Bt : Bi mg) (F_tupled : Fd P w K mg base "tupled" 1 8 sp_tupled) (F_is_word : Fd P w K mg base "is_word" 1 3 sp_is_word) :
    Fd P w K mg base "sure_word" 1 9 sp_sure_word := by
  refine Tt.ok sc_sure_word (fun vs H Q E h => ?_) (fun f cdv A outer s H vs Q E hr h => ?_)
  · obtain ⟨_, rfl, _⟩ := h
    rfl
  obtain ⟨_, rfl, d, ns, h, ho, e, hw, q⟩ := h
  refine ⟨_, pss_cons (ps_set (i := 1) sc_sure_word.nd rfl (Or.inl rfl) (pe_fn F_tupled hr (by decide) rfl (pa_cons (pv 0) (pa_nil))))
    (pss_cons (ps_if (pt_not (pt_val (pe_fn F_is_word hr (by decide) rfl (pa_cons (pv 1) (pa_nil))))) (pss_never) (pss_nil))
    (pss_one (ps_ret (pv 1)))), ?_⟩
  refine ⟨_, rfl, _, rfl, d, h, ho, fun v H1 g1 r => ?_⟩
  have ho2 := okD_tupled d 7 ho
  rw [e] at r ho2
  have t := dr_TI.mp r
  refine ⟨_, rfl, _, rfl, _, r, ho2, fun H2 g2 => ⟨_, rfl, ?_⟩⟩
  rw [isWordD_tI, hw]
  exact iteF ⟨_, rfl, q _ _ (g1.trans g2) (t.sm g2)⟩
/-! ### numbers in a row -/
def sp_sure_numbers : Sp := fun vs H Q _ => ∃ v1 v2, vs = [v1, v2] ∧ ∃ d ns, Dr H d v1 ∧ okD d 7 = true ∧ tupledD d = tI ns ∧ ns ≠ [] ∧ ns.length < 1000 ∧ (v2 = .non ∨ ∃ l, v2 = .int l ∧ ∀ n ∈ ns, l ≤ n) ∧ ∀ v H', Same H H' → TI H' v ns → Q v H'
abbrev N_sure_numbers : List Str := ["numbers", "least", "own", "one"]
abbrev s_sure_numbers : Stmt := topS 29
theorem sc_sure_numbers : FnScope N_sure_numbers ["numbers", "least"] (defScope s_sure_numbers) := ⟨rfl, rfl, rfl, by decide +kernel, rfl, by decide +kernel, by decide +kernel⟩
theorem ok_sure_numbers {P : Program} {w : World} {K : PySem.W.Frag} {mg : Str → Option Value} {base : Heap} (Tt : Tx K mg "sure_numbers" s_sure_numbers ["numbers", "least"]) (Bt : Bi mg) (F_tupled : Fd P w K mg base "tupled" 1 8 sp_tupled) (F_is_number : Fd P w K mg base "is_number" 1 1 sp_is_number) (F_is_from : Fd P w K mg base "is_from" 2 2 sp_is_from) :
    Fd P w K mg base "sure_numbers" 2 9 sp_sure_numbers := by
  refine Tt.ok sc_sure_numbers (fun vs H Q E h => ?_) (fun f cdv A outer s H vs Q E hr h => ?_)
  · obtain ⟨_, _, rfl, _⟩ := h
    rfl
  obtain ⟨_, v2, rfl, d, ns, h, ho, e, hne, hl, hv2, q⟩ := h
  refine ⟨_, pss_cons (ps_set (i := 2) sc_sure_numbers.nd rfl (Or.inl rfl) (pe_fn F_tupled hr (by decide) rfl (pa_cons (pv 0) (pa_nil))))
    (pss_cons (ps_if (PW.pt (pw_or (pt_not (pt_val (e_isi K Bt (pv 2) Bt.tuple (by decide +kernel)))) (pw_or (pt_cmpR op_eq (e_len K Bt (pv 2)) (pe_int) (nomark _)) (pw_or1 (pt_not (pt_val (e_all K Bt (pe_lcS (own := [("one", 3)]) rfl sc_sure_numbers.nd (k_tup K (pv 2)) (blkOk_by (N := N_sure_numbers) (sc := defScope s_sure_numbers) (by decide +kernel)) (fun _ _ _ _ _ => pg_name (i := 3) sc_sure_numbers.nd rfl (Or.inl rfl)) (fun _ _ _ _ _ => pts_nil) (fun _ _ _ _ _ => pe_fn F_is_number hr (by decide) rfl (pa_cons (pv 3) (pa_nil))))))))))) (pss_never) (pss_nil))
    (pss_cons (ps_if (PW.pt (pw_and (pt_cmpR op_notN (pv 1) (pe_non) (nomark _)) (pw_and1 (pt_not (pt_val (e_all K Bt (pe_lcS (own := [("one", 3)]) rfl sc_sure_numbers.nd (k_tup K (pv 2)) (blkOk_by (N := N_sure_numbers) (sc := defScope s_sure_numbers) (by decide +kernel)) (fun _ _ _ _ _ => pg_name (i := 3) sc_sure_numbers.nd rfl (Or.inl rfl)) (fun _ _ _ _ _ => pts_nil) (fun _ _ _ _ _ => pe_fn F_is_from hr (by decide) rfl (pa_cons (pv 3) (pa_cons (pv 1) (pa_nil))))))))))) (pss_never) (pss_nil))
    (pss_one (ps_ret (pv 2))))), ?_⟩
  refine ⟨_, rfl, _, rfl, d, h, ho, fun v H1 g1 r => ?_⟩
  rw [e] at r
  have t := dr_TI.mp r
  obtain ⟨a, rfl, ha⟩ := id t
  have hpos := pos_of_ne hne
  refine ⟨_, rfl, isi_ok r (kit_tuple K _) ⟨_, rfl, iteF ?_⟩⟩
  refine ⟨_, rfl, a, _, _, rfl, .inr (SqT.of ha), len_int, rfl, _, rfl, ?_⟩
  rw [dec_ne (by omega)]
  refine ⟨_, rfl, a, rfl, ⟨_, SqT.of ha⟩, Bool, rB, _, _, _, fun _ => some true, src_tupI, by omega, fun H' g => SqT.of (g _ _ ha), fun i hi => rfl,
    fun i hi H' g Q' q' => q' H' (Same.refl _), .inr ⟨km_B, fun i b hi hb H' g Q' q' => ?_⟩, fun D ys H2 hD g2 hY _ hp => ?_⟩
  · exact ⟨_, rfl, _, rfl, .int (ns.getD i 0), rfl, fun H2 g2 => q' _ _ g2 (congrArg V.bl (Option.some.inj hb))⟩
  obtain ⟨bs, e1, e2⟩ := all_same hp
  refine ⟨D, bs, rfl, SqL.of (by rw [← e1]; exact hY), _, rfl, ?_⟩
  rw [e2]
  refine iteF ?_
  have ha2 := g2 _ _ ha
  rcases hv2 with rfl | ⟨l, rfl, hle⟩
  · refine ⟨_, rfl, rfl, _, rfl, ?_⟩
    exact ⟨_, rfl, q _ _ (g1.trans g2) (t.sm g2)⟩
  · refine ⟨_, rfl, rfl, _, rfl, ?_⟩
    refine ⟨_, rfl, a, rfl, ⟨_, SqT.of ha2⟩, Bool, rB, _, _, _, fun _ => some true, src_tupI, by omega, fun H' g => SqT.of (g _ _ ha2), fun i hi => rfl,
      fun i hi H' g Q' q' => q' H' (Same.refl _), .inr ⟨km_B, fun i b hi hb H' g Q' q' => ?_⟩, fun D ys H3 hD g3 hY _ hp => ?_⟩
    · have hm : ns.getD i 0 ∈ ns := by
        rw [getD_of (List.getElem?_eq_getElem hi)]
        exact List.getElem_mem hi
      refine ⟨_, rfl, _, rfl, _, _, rfl, .int (ns.getD i 0), l, rfl, rfl, fun H4 g4 => q' _ _ g4 ?_⟩
      show V.bl (decide (l ≤ ns.getD i 0)) = V.bl b
      rw [decide_eq_true (hle _ hm), ← Option.some.inj hb]
    · obtain ⟨cs, e3, e4⟩ := all_same hp
      refine ⟨D, cs, rfl, SqL.of (by rw [← e3]; exact hY), _, rfl, ?_⟩
      rw [e4]
      exact iteF ⟨_, rfl, q _ _ (g1.trans (g2.trans g3)) (t.sm (g2.trans g3))⟩
def sp_sure_row : Sp := fun vs H Q _ => ∃ v1 v2, vs = [v1, v2] ∧ ∃ d1 d2 ns ms, Dr H d1 v1 ∧ okD d1 7 = true ∧ tupledD d1 = tI ns ∧ isWordI ns = true ∧ Dr H d2 v2 ∧ okD d2 7 = true ∧ tupledD d2 = tI ms ∧ ms ≠ [] ∧ ms.length < 1000 ∧ maxM ns + 1 = (ms.length : Int) ∧
  ∀ v H', Same H H' → (∃ a x y, v = .ref a ∧ H' a = some (.tup [x, y]) ∧ TI H' x ns ∧ TI H' y ms) → Q v H'
abbrev N_sure_row : List Str := ["row", "numbers", "own", "told"]
abbrev s_sure_row : Stmt := topS 30
theorem sc_sure_row : FnScope N_sure_row ["row", "numbers"] (defScope s_sure_row) := ⟨rfl, rfl, rfl, by decide +kernel, rfl, by decide +kernel, by decide +kernel⟩
theorem ok_sure_row {P : Program} {w : World} {K : PySem.W.Frag} {mg : Str → Option Value} {base : Heap} (Tt : Tx K mg "sure_row" s_sure_row ["row", "numbers"]) (Bt : Bi mg) (F_sure_word : Fd P w K mg base "sure_word" 1 9 sp_sure_word) (F_sure_numbers : Fd P w K mg base "sure_numbers" 2 9 sp_sure_numbers) :
    Fd P w K mg base "sure_row" 2 10 sp_sure_row := by
  refine Tt.ok sc_sure_row (fun vs H Q E h => ?_) (fun f cdv A outer s H vs Q E hr h => ?_)
  · obtain ⟨_, _, rfl, _⟩ := h
    rfl
  obtain ⟨_, _, rfl, d1, d2, ns, ms, h1, ho1, e1, hw, h2, ho2, e2, hne, hl, hm, q⟩ := h
  refine ⟨_, pss_cons (ps_par (by rfl) sc_sure_row.nd (i := 2) (j := 3) rfl rfl (by decide) rfl rfl (pa_cons (pe_fn F_sure_word hr (by decide) rfl (pa_cons (pv 0) (pa_nil))) (pa_cons (pe_fn F_sure_numbers hr (by decide) rfl (pa_cons (pv 1) (pa_cons (pe_non) (pa_nil)))) (pa_nil))) (by rfl))
    (pss_cons (ps_if (pt_cmpR op_ne (pe_op op_add (e_maxT K Bt hr (pv 2)) (pe_int)) (e_len K Bt (pv 3)) (nomark _)) (pss_never) (pss_nil))
    (pss_one (ps_ret (pe_tup (pa_cons (pv 2) (pa_cons (pv 3) (pa_nil))))))), ?_⟩
  refine ⟨_, rfl, _, rfl, d1, ns, h1, ho1, e1, hw, fun v H1 g1 t1 => ?_⟩
  refine ⟨_, rfl, _, _, rfl, d2, ms, Dr.sm g1 _ _ h2, ho2, e2, hne, hl, .inl rfl, fun u H2 g2 t2 => ?_⟩
  obtain ⟨a, rfl, ha⟩ := t1.sm g2
  obtain ⟨b, rfl, hb⟩ := id t2
  refine ⟨_, _, rfl, ?_⟩
  cases ns with
  | nil => cases hw
  | cons n ns =>
    refine ⟨_, rfl, a, n, ns, rfl, SqT.of ha, _, _, rfl, rfl, _, rfl, b, _, _, rfl, .inr (SqT.of hb), len_int, rfl, _, rfl, ?_⟩
    rw [dec_eq (show ns.foldl max n + 1 = ((ms.length : Nat) : Int) from hm)]
    refine iteF ⟨_, rfl, _, rfl, (by show 2 ≤ sizeLine; decide), fun p hp => ?_⟩
    have g3 : Same H2 (upd H2 p (.tup [.ref a, .ref b])) := same_new hp _
    exact q _ _ (g1.trans (g2.trans g3)) ⟨p, _, _, rfl, upd_same, ⟨a, rfl, g3 _ _ ha⟩, ⟨b, rfl, g3 _ _ hb⟩⟩
end Rw

namespace Mth
/-! ### plain facts: a step on places, its orbits, the places that come back -/
def iter (f : Nat → Nat) : Nat → Nat → Nat
  | 0, p => p
  | n + 1, p => f (iter f n p)
theorem iter_succ' (f : Nat → Nat) : ∀ n p, iter f (n + 1) p = iter f n (f p)
  | 0, _ => rfl
  | n + 1, p => by
    show f (iter f (n + 1) p) = f (iter f n (f p))
    rw [iter_succ' f n p]
theorem iter_add (f : Nat → Nat) : ∀ m n p, iter f (m + n) p = iter f m (iter f n p)
  | 0, n, p => by rw [Nat.zero_add]; rfl
  | m + 1, n, p => by
    rw [Nat.succ_add]
    show f (iter f (m + n) p) = f (iter f m (iter f n p))
    rw [iter_add f m n p]
theorem iter_lt {f : Nat → Nat} {N : Nat} (hf : ∀ p, p < N → f p < N) : ∀ n p, p < N → iter f n p < N
  | 0, _, h => h
  | n + 1, p, h => hf _ (iter_lt hf n p h)
/-- it comes back within N beats -/
def perB (f : Nat → Nat) (N p : Nat) : Bool := (List.range N).any fun j => iter f (j + 1) p == p
theorem perB_iff {f : Nat → Nat} {N p : Nat} : perB f N p = true ↔ ∃ j, 1 ≤ j ∧ j ≤ N ∧ iter f j p = p := by
  unfold perB
  rw [List.any_eq_true]
  constructor
  · rintro ⟨j, hj, e⟩
    exact ⟨j + 1, by omega, by have := List.mem_range.mp hj; omega, by simpa using e⟩
  · rintro ⟨j, h1, h2, e⟩
    refine ⟨j - 1, List.mem_range.mpr (by omega), ?_⟩
    have e1 : j - 1 + 1 = j := by omega
    rw [e1]
    simpa using e
theorem nodup_leN {α : Type} [BEq α] [LawfulBEq α] : ∀ (l m : List α), l.Nodup → (∀ x, x ∈ l → x ∈ m) → l.length ≤ m.length
  | [], _, _, _ => Nat.zero_le _
  | x :: l, m, nd, h => by
    have hx : x ∈ m := h x List.mem_cons_self
    have nd' := List.nodup_cons.mp nd
    have z := nodup_leN l (m.erase x) nd'.2 fun y hy => (List.mem_erase_of_ne (fun e => nd'.1 (by rw [← e]; exact hy))).mpr (h y (List.mem_cons_of_mem _ hy))
    rw [List.length_erase_of_mem hx] at z
    have := List.length_pos_of_mem hx
    rw [List.length_cons]
    omega
theorem nodup_map {c : Nat → Nat} : ∀ n, (∀ i j, i < j → j < n → c i ≠ c j) → ((List.range n).map c).Nodup
  | 0, _ => by simp
  | n + 1, h => by
    rw [List.range_succ, List.map_append, List.nodup_append]
    refine ⟨nodup_map n fun i j h1 h2 => h i j h1 (by omega), by simp, ?_⟩
    intro a ha b hb
    obtain ⟨i, hi, rfl⟩ := List.mem_map.mp ha
    have hb' : b = c n := by simpa using hb
    rw [hb']
    exact h i n (List.mem_range.mp hi) (by omega)
/-- two of N + 1 things below N are one -/
theorem pigeon {N : Nat} (c : Nat → Nat) (h : ∀ i, i ≤ N → c i < N) : ∃ i j, i < j ∧ j ≤ N ∧ c i = c j := by
  apply Classical.byContradiction
  intro hn
  have nd : ((List.range (N + 1)).map c).Nodup := nodup_map (N + 1) fun i j h1 h2 e => hn ⟨i, j, h1, by omega, e⟩
  have z := nodup_leN _ (List.range N) nd fun x hx => by
    obtain ⟨i, hi, rfl⟩ := List.mem_map.mp hx
    exact List.mem_range.mpr (h i (by have := List.mem_range.mp hi; omega))
  rw [List.length_map, List.length_range, List.length_range] at z
  omega
/-- some place comes back -/
theorem per_some {f : Nat → Nat} {N : Nat} (hf : ∀ p, p < N → f p < N) (hN : 0 < N) : ∃ p, p < N ∧ perB f N p = true := by
  obtain ⟨i, j, h1, h2, e⟩ := pigeon (N := N) (fun i => iter f i 0) fun i _ => iter_lt hf i 0 hN
  refine ⟨iter f i 0, iter_lt hf i 0 hN, perB_iff.mpr ⟨j - i, by omega, by omega, ?_⟩⟩
  rw [← iter_add]
  have e1 : j - i + i = j := by omega
  rw [e1]
  exact e.symm
/-- a place that comes back has one ahead of it that does -/
theorem per_pred {f : Nat → Nat} {N p : Nat} (hf : ∀ p, p < N → f p < N) (hp : p < N) (h : perB f N p = true) : ∃ q, q < N ∧ perB f N q = true ∧ f q = p := by
  obtain ⟨j, h1, h2, e⟩ := perB_iff.mp h
  have e1 : j = (j - 1) + 1 := by omega
  refine ⟨iter f (j - 1) p, iter_lt hf _ _ hp, perB_iff.mpr ⟨j, h1, h2, ?_⟩, ?_⟩
  · rw [← iter_add, Nat.add_comm, iter_add, e]
  · show iter f (j - 1 + 1) p = p
    rw [← e1]
    exact e
/-- if each of some places has one of them ahead of it, all of them come back -/
theorem back_all {f : Nat → Nat} {N : Nat} {U : Nat → Prop} (hU : ∀ p, U p → p < N) (h : ∀ p, U p → ∃ q, U q ∧ f q = p) {p : Nat} (hp : U p) : perB f N p = true := by
  have G : ∀ p, ∃ q, U p → U q ∧ f q = p := fun p => by
    by_cases hh : U p
    · obtain ⟨q, z⟩ := h p hh
      exact ⟨q, fun _ => z⟩
    · exact ⟨p, fun z => absurd z hh⟩
  let pr : Nat → Nat := fun p => Classical.choose (G p)
  have hpr : ∀ p, U p → U (pr p) ∧ f (pr p) = p := fun p hh => Classical.choose_spec (G p) hh
  have hc : ∀ i, U (iter pr i p) ∧ iter f i (iter pr i p) = p := fun i => by
    induction i with
    | zero => exact ⟨hp, rfl⟩
    | succ i ih =>
      refine ⟨(hpr _ ih.1).1, ?_⟩
      rw [iter_succ']
      show iter f i (f (pr (iter pr i p))) = p
      rw [(hpr _ ih.1).2]
      exact ih.2
  obtain ⟨i, j, h1, h2, e⟩ := pigeon (N := N) (fun i => iter pr i p) fun i _ => hU _ (hc i).1
  refine perB_iff.mpr ⟨j - i, by omega, by omega, ?_⟩
  have e1 : p = iter f j (iter pr j p) := (hc j).2.symm
  have e2 : iter f i (iter pr j p) = p := by
    have e' : iter pr i p = iter pr j p := e
    rw [← e']
    exact (hc i).2
  have e3 : j = (j - i) + i := by omega
  rw [e3, iter_add] at e1
  rw [← e3, e2] at e1
  exact e1.symm
/-! ### an orbit, told till it comes again -/
def orb (f : Nat → Nat) (p k : Nat) : List Nat := (List.range k).map fun i => iter f i p
theorem orb_succ (f : Nat → Nat) (p k : Nat) : orb f p (k + 1) = orb f p k ++ [iter f k p] := by
  unfold orb
  rw [List.range_succ, List.map_append]
  rfl
theorem orb_len {f : Nat → Nat} {p k N : Nat} (hf : ∀ p, p < N → f p < N) (hp : p < N) (nd : (orb f p k).Nodup) : k ≤ N := by
  have z := nodup_leN _ (List.range N) nd fun x hx => by
    obtain ⟨i, _, rfl⟩ := List.mem_map.mp hx
    exact List.mem_range.mpr (iter_lt hf i p hp)
  unfold orb at z
  rw [List.length_map, List.length_range, List.length_range] at z
  exact z
/-- once a place comes again, all that come are there -/
theorem orb_all {f : Nat → Nat} {p k : Nat} (h : iter f k p ∈ orb f p k) (i : Nat) : iter f i p ∈ orb f p k := by
  have hm : ∀ x, x ∈ orb f p k ↔ ∃ i, i < k ∧ iter f i p = x := fun x => by
    unfold orb
    rw [List.mem_map]
    constructor
    · rintro ⟨i, hi, e⟩; exact ⟨i, List.mem_range.mp hi, e⟩
    · rintro ⟨i, hi, e⟩; exact ⟨i, List.mem_range.mpr hi, e⟩
  induction i with
  | zero =>
    obtain ⟨j, hj, e⟩ := (hm _).mp h
    exact (hm _).mpr ⟨0, by omega, rfl⟩
  | succ i ih =>
    obtain ⟨j, hj, e⟩ := (hm _).mp ih
    have e1 : iter f (i + 1) p = iter f (j + 1) p := by
      show f (iter f i p) = f (iter f j p)
      rw [e]
    rw [e1]
    by_cases hk : j + 1 < k
    · exact (hm _).mpr ⟨j + 1, hk, rfl⟩
    · have : j + 1 = k := by omega
      rw [this]
      exact h
theorem orb_mem {f : Nat → Nat} {p k : Nat} (h : iter f k p ∈ orb f p k) (x : Nat) : x ∈ orb f p k ↔ ∃ i, iter f i p = x := by
  constructor
  · intro hx
    obtain ⟨i, _, e⟩ := List.mem_map.mp hx
    exact ⟨i, e⟩
  · rintro ⟨i, e⟩
    rw [← e]
    exact orb_all h i
/-- of a place that comes back behind b beats: the first b tell all -/
theorem orb_per {f : Nat → Nat} {p b : Nat} (hb : 1 ≤ b) (h : iter f b p = p) : iter f b p ∈ orb f p b := by
  rw [h]
  exact List.mem_map.mpr ⟨0, List.mem_range.mpr (by omega), rfl⟩
end Mth

namespace Mth
theorem filt_same {α : Type} {P P' : α → Bool} : ∀ {l : List α}, (∀ x ∈ l, P x = P' x) → l.filter P = l.filter P'
  | [], _ => rfl
  | x :: l, h => by
    rw [List.filter_cons, List.filter_cons, h x List.mem_cons_self, filt_same fun y hy => h y (List.mem_cons_of_mem _ hy)]
theorem filt_drop {P : Nat → Bool} {p : Nat} (hp : P p = true) : ∀ {l : List Nat}, l.Nodup → p ∈ l → (l.filter fun x => P x && x != p).length + 1 = (l.filter P).length
  | [], _, h => by cases h
  | x :: l, nd, h => by
    have nd' := List.nodup_cons.mp nd
    by_cases e : x = p
    · subst e
      have e1 : (P x && x != x) = false := by simp
      have e2 : (l.filter fun y => P y && y != x) = l.filter P := filt_same fun y hy => by
        have : y ≠ x := fun z => nd'.1 (by rw [← z]; exact hy)
        simp [this]
      rw [List.filter_cons, List.filter_cons, e1, hp, e2]
      rfl
    · have hm : p ∈ l := by
        rcases List.mem_cons.mp h with z | z
        · exact absurd z.symm e
        · exact z
      have ih := filt_drop hp nd'.2 hm
      have e1 : (P x && x != p) = P x := by simp [e]
      rw [List.filter_cons, List.filter_cons, e1]
      cases P x with
      | true =>
        show ((x :: l.filter _).length + 1 : Nat) = (x :: l.filter P).length
        rw [List.length_cons, List.length_cons, ih]
      | false => exact ih
/-- how many lead to q, those gone through not counted -/
def cntR (f : Nat → Nat) (N : Nat) (R : List Nat) (q : Nat) : Nat := ((List.range N).filter fun p => decide (p ∉ R) && f p == q).length
theorem cnt_gone {f : Nat → Nat} {N p : Nat} {R : List Nat} (hp : p < N) (hR : p ∉ R) : cntR f N (p :: R) (f p) + 1 = cntR f N R (f p) := by
  have z := filt_drop (P := fun x => decide (x ∉ R) && f x == f p) (p := p) (by simp [hR]) (List.nodup_range (n := N)) (List.mem_range.mpr hp)
  have e : ((List.range N).filter fun x => decide (x ∉ p :: R) && f x == f p) = (List.range N).filter fun x => (decide (x ∉ R) && f x == f p) && x != p := by
    congr 1
    funext x
    by_cases h1 : x = p
    · subst h1; simp
    · simp [h1]
  unfold cntR
  rw [e]
  exact z
theorem cnt_other {f : Nat → Nat} {N p q : Nat} {R : List Nat} (h : f p ≠ q) : cntR f N (p :: R) q = cntR f N R q := by
  unfold cntR
  congr 2
  funext x
  by_cases h1 : x = p
  · subst h1; simp [h]
  · simp [h1]
theorem cnt_zero {f : Nat → Nat} {N q : Nat} {R : List Nat} : cntR f N R q = 0 ↔ ∀ p, p < N → f p = q → p ∈ R := by
  unfold cntR
  rw [List.length_eq_zero_iff, List.filter_eq_nil_iff]
  constructor
  · intro h p hp e
    have z := h p (List.mem_range.mpr hp)
    apply Classical.byContradiction
    intro hn
    exact z (by simp [hn, e])
  · intro h p hp z
    have z' : p ∉ R ∧ f p = q := by simpa using z
    exact z'.1 (h p (List.mem_range.mp hp) z'.2)
theorem getD_set_same {m : List Nat} {g v : Nat} (h : g < m.length) : (m.set g v).getD g 0 = v := by
  rw [List.getD_eq_getElem?_getD, List.getElem?_set_self h]
  rfl
theorem getD_set_ne {m : List Nat} {g q v : Nat} (h : g ≠ q) : (m.set g v).getD q 0 = m.getD q 0 := by
  rw [List.getD_eq_getElem?_getD, List.getElem?_set_ne h, List.getD_eq_getElem?_getD]
/-- the peeling: m the counts, left what is to go, R what has gone -/
structure Peel (f : Nat → Nat) (N : Nat) (m left R : List Nat) : Prop where
  len : m.length = N
  cnt : ∀ q, q < N → m.getD q 0 = cntR f N R q
  zer : ∀ q, q < N → (m.getD q 0 = 0 ↔ q ∈ R ∨ q ∈ left)
  lt : ∀ q, q ∈ left → q < N
  dis : ∀ q, q ∈ left → q ∉ R
  nd : left.Nodup
  ndR : R.Nodup
  ltR : ∀ q, q ∈ R → q < N
  non : ∀ q, q ∈ R ∨ q ∈ left → perB f N q = false
theorem Peel.few {f : Nat → Nat} {N : Nat} {m left R : List Nat} (P : Peel f N m left R) : R.length ≤ N := by
  have z := nodup_leN R (List.range N) P.ndR fun x hx => List.mem_range.mpr (P.ltR x hx)
  rw [List.length_range] at z
  exact z
theorem Peel.start {f : Nat → Nat} {N : Nat} {m : List Nat} (hf : ∀ p, p < N → f p < N) (len : m.length = N) (cnt : ∀ q, q < N → m.getD q 0 = cntR f N [] q) : Peel f N m ((List.range N).filter fun q => decide (m.getD q 0 = 0)) [] where
  len := len
  cnt := cnt
  zer := fun q hq => by
    rw [List.mem_filter, List.mem_range]
    simp [hq]
  lt := fun q h => List.mem_range.mp (List.mem_filter.mp h).1
  dis := fun q _ h => by cases h
  nd := List.Nodup.sublist List.filter_sublist List.nodup_range
  ndR := List.nodup_nil
  ltR := fun q h => by cases h
  non := fun q h => by
    rcases h with h | h
    · cases h
    · have h1 := List.mem_range.mp (List.mem_filter.mp h).1
      have h2 : m.getD q 0 = 0 := by simpa using (List.mem_filter.mp h).2
      rw [cnt q h1, cnt_zero] at h2
      cases e : perB f N q with
      | false => rfl
      | true =>
        obtain ⟨p, hp, _, e'⟩ := per_pred hf h1 e
        exact absurd (h2 p hp e') (by simp)
theorem Peel.step {f : Nat → Nat} {N p : Nat} {m left R : List Nat} (hf : ∀ p, p < N → f p < N) (P : Peel f N m (left ++ [p]) R) :
    p < N ∧ 1 ≤ m.getD (f p) 0 ∧ (m.getD (f p) 0 - 1 = 0 → Peel f N (m.set (f p) (m.getD (f p) 0 - 1)) (left ++ [f p]) (p :: R)) ∧
      (m.getD (f p) 0 - 1 ≠ 0 → Peel f N (m.set (f p) (m.getD (f p) 0 - 1)) left (p :: R)) ∧ R.length < N := by
  have hpl : p ∈ left ++ [p] := List.mem_append_right _ (List.mem_singleton.mpr rfl)
  have hp : p < N := P.lt p hpl
  have hpR : p ∉ R := P.dis p hpl
  have hg : f p < N := hf p hp
  have c1 := cnt_gone (f := f) hp hpR
  have h1 : 1 ≤ m.getD (f p) 0 := by rw [P.cnt _ hg]; omega
  have hgz : ¬ (f p ∈ R ∨ f p ∈ left ++ [p]) := fun h => by
    have := (P.zer _ hg).mpr h
    omega
  have hgp : f p ≠ p := fun e => hgz (.inr (by rw [e]; exact hpl))
  have hgl : f p ∉ left := fun h => hgz (.inr (List.mem_append_left _ h))
  have hgR : f p ∉ R := fun h => hgz (.inl h)
  have nd0 := List.nodup_append.mp P.nd
  have hpn : p ∉ left := fun h => nd0.2.2 p h p (List.mem_singleton.mpr rfl) rfl
  have len' : (m.set (f p) (m.getD (f p) 0 - 1)).length = N := by rw [List.length_set]; exact P.len
  have hgm : f p < m.length := by rw [P.len]; exact hg
  have cnt' : ∀ q, q < N → (m.set (f p) (m.getD (f p) 0 - 1)).getD q 0 = cntR f N (p :: R) q := fun q hq => by
    by_cases e : f p = q
    · subst e
      rw [getD_set_same hgm, P.cnt _ hg]
      omega
    · rw [getD_set_ne e, P.cnt q hq, cnt_other e]
  have ndR' : (p :: R).Nodup := List.nodup_cons.mpr ⟨hpR, P.ndR⟩
  have ltR' : ∀ q, q ∈ p :: R → q < N := fun q h => by
    rcases List.mem_cons.mp h with e | h
    · rw [e]; exact hp
    · exact P.ltR q h
  have hnon : ∀ q, q ∈ p :: R ∨ q ∈ left → perB f N q = false := fun q h => by
    rcases h with h | h
    · rcases List.mem_cons.mp h with e | h
      · rw [e]; exact P.non p (.inr hpl)
      · exact P.non q (.inl h)
    · exact P.non q (.inr (List.mem_append_left _ h))
  have hmem : ∀ q, q ∈ p :: R ∨ q ∈ left ↔ q ∈ R ∨ q ∈ left ++ [p] := fun q => by
    simp only [List.mem_cons, List.mem_append, List.mem_singleton, List.not_mem_nil, or_false]
    constructor
    · rintro ((a | a) | a)
      · exact .inr (.inr a)
      · exact .inl a
      · exact .inr (.inl a)
    · rintro (a | (a | a))
      · exact .inl (.inr a)
      · exact .inr a
      · exact .inl (.inl a)
  have hfew : R.length < N := by
    have z := nodup_leN (p :: R) (List.range N) ndR' fun x hx => List.mem_range.mpr (ltR' x hx)
    rw [List.length_range, List.length_cons] at z
    omega
  refine ⟨hp, h1, fun hz => ?_, fun hz => ?_, hfew⟩
  · refine ⟨len', cnt', fun q hq => ?_, fun q h => ?_, fun q h => ?_, ?_, ndR', ltR', fun q h => ?_⟩
    · by_cases e : f p = q
      · subst e
        rw [getD_set_same hgm]
        exact ⟨fun _ => .inr (List.mem_append_right _ (List.mem_singleton.mpr rfl)), fun _ => hz⟩
      · rw [getD_set_ne e, P.zer q hq, ← hmem q]
        constructor
        · rintro (a | a)
          · exact .inl a
          · exact .inr (List.mem_append_left _ a)
        · rintro (a | a)
          · exact .inl a
          · rcases List.mem_append.mp a with a | a
            · exact .inr a
            · exact absurd (List.mem_singleton.mp a).symm e
    · rcases List.mem_append.mp h with h | h
      · exact P.lt q (List.mem_append_left _ h)
      · rw [List.mem_singleton.mp h]; exact hg
    · rcases List.mem_append.mp h with h | h
      · intro z
        rcases List.mem_cons.mp z with e | z
        · rw [e] at h; exact hpn h
        · exact P.dis q (List.mem_append_left _ h) z
      · rw [List.mem_singleton.mp h]
        intro z
        rcases List.mem_cons.mp z with e | z
        · exact hgp e
        · exact hgR z
    · refine List.nodup_append.mpr ⟨nd0.1, by simp, fun a ha b hb => ?_⟩
      rw [List.mem_singleton.mp hb]
      intro e
      rw [e] at ha
      exact hgl ha
    · rcases h with h | h
      · exact hnon q (.inl h)
      · rcases List.mem_append.mp h with h | h
        · exact hnon q (.inr h)
        · rw [List.mem_singleton.mp h]
          have z := cnt' (f p) hg
          rw [getD_set_same hgm, hz] at z
          have z' := cnt_zero.mp z.symm
          cases e : perB f N (f p) with
          | false => rfl
          | true =>
            obtain ⟨r, hr, hper, e'⟩ := per_pred hf hg e
            have := hnon r (.inl (z' r hr e'))
            rw [hper] at this
            cases this
  · refine ⟨len', cnt', fun q hq => ?_, fun q h => P.lt q (List.mem_append_left _ h), fun q h => ?_, nd0.1, ndR', ltR', hnon⟩
    · by_cases e : f p = q
      · subst e
        rw [getD_set_same hgm]
        constructor
        · intro z; exact absurd z hz
        · intro z; exact absurd ((hmem _).mp z) hgz
      · rw [getD_set_ne e, P.zer q hq, ← hmem q]
    · intro z
      rcases List.mem_cons.mp z with e | z
      · rw [e] at h; exact hpn h
      · exact P.dis q (List.mem_append_left _ h) z
theorem Peel.done {f : Nat → Nat} {N : Nat} {m R : List Nat} (P : Peel f N m [] R) {q : Nat} (hq : q < N) : decide (0 < m.getD q 0) = perB f N q := by
  by_cases h : 0 < m.getD q 0
  · rw [decide_eq_true h]
    refine (back_all (U := fun p => p < N ∧ p ∉ R) (fun p hp => hp.1) (fun p hp => ?_) ⟨hq, fun z => ?_⟩).symm
    · have h0 : ¬ cntR f N R p = 0 := by
        rw [← P.cnt p hp.1]
        intro z
        rcases (P.zer p hp.1).mp z with z | z
        · exact hp.2 z
        · cases z
      apply Classical.byContradiction
      intro hn
      refine h0 (cnt_zero.mpr fun r hr e => ?_)
      apply Classical.byContradiction
      intro hrR
      exact hn ⟨r, ⟨hr, hrR⟩, e⟩
    · have := (P.zer q hq).mpr (.inl z)
      omega
  · rw [decide_eq_false h]
    exact (P.non q ((P.zer q hq).mp (by omega))).symm
end Mth

namespace Rw
open PySem PySem.Spec PyProof.Rows L2 Mth

/-! ### turnings -/
def stepF (ws : List Int) (p : Nat) : Nat := (ledM ws (p : Int) % (ws.length : Int)).toNat
theorem stepF_lt {ws : List Int} (h : ws ≠ []) (p : Nat) : stepF ws p < ws.length := by
  have := pos_of_ne h
  obtain ⟨m0, m1⟩ := mod_ok (ledM ws (p : Int)) this
  unfold stepF
  omega
theorem led_mod {ws : List Int} (h : ws ≠ []) (z : Int) : ledM ws z % (ws.length : Int) = ws.getD (z % (ws.length : Int)).toNat 0 % (ws.length : Int) := by
  unfold ledM
  exact Int.add_mul_emod_self_right _ _ _
theorem stepF_eq {ws : List Int} (h : ws ≠ []) {p : Nat} (hp : p < ws.length) : (stepF ws p : Int) = ws.getD p 0 % (ws.length : Int) := by
  have hpos := pos_of_ne h
  obtain ⟨m0, m1⟩ := mod_ok (ledM ws (p : Int)) hpos
  have e : ((p : Int) % (ws.length : Int)).toNat = p := by
    rw [Int.emod_eq_of_lt (by omega) (by omega)]
    rfl
  have z := led_mod h (p : Int)
  rw [e] at z
  rw [← z]
  unfold stepF
  omega
theorem led_step {ws : List Int} (h : ws ≠ []) {z : Int} {p : Nat} (e : z % (ws.length : Int) = (p : Int)) : ledM ws z % (ws.length : Int) = (stepF ws p : Int) := by
  have hpos := pos_of_ne h
  obtain ⟨m0, m1⟩ := mod_ok z hpos
  rw [led_mod h, stepF_eq h (by omega), e]
  rfl
def LI : Rp (List Int) := fun H v ns => ∃ a, v = .ref a ∧ H a = some (.lst (ns.map V.int))
theorem sm_LI : SM LI := fun _ _ _ _ e ⟨a, h1, h2⟩ => ⟨a, h1, e _ _ h2⟩
def ofN (l : List Nat) : List Int := l.map fun (i : Nat) => (i : Int)
theorem mem_ofN {l : List Nat} {x : Nat} : ((x : Nat) : Int) ∈ ofN l ↔ x ∈ l := by
  unfold ofN
  rw [List.mem_map]
  constructor
  · rintro ⟨y, hy, e⟩
    have : y = x := by omega
    rw [← this]
    exact hy
  · intro h
    exact ⟨x, h, rfl⟩
theorem ofN_len {l : List Nat} : (ofN l).length = l.length := List.length_map _
theorem orb_length (f : Nat → Nat) (p k : Nat) : (orb f p k).length = k := by unfold orb; rw [List.length_map, List.length_range]
theorem orb_at {f : Nat → Nat} {p k i : Nat} (h : i < k) : (ofN (orb f p k)).getD i 0 = (iter f i p : Nat) := by
  unfold ofN orb
  rw [List.map_map, List.getD_eq_getElem?_getD, List.getElem?_map, List.getElem?_range h]
  rfl
/-- the places that come, from p on, till one comes again -/
def orbitP (ws : List Int) (p k : Nat) : Prop := iter (stepF ws) k p ∈ orb (stepF ws) p k
def sp_places_in : Sp := fun vs H Q _ => ∃ v1 v2, vs = [v1, v2] ∧ ∃ (ws : List Int) (p : Nat), TI H v1 ws ∧ v2 = .int (p : Nat) ∧ p < ws.length ∧ ws.length < 1000 ∧
  ∀ v H' k, Same H H' → orbitP ws p k → k ≤ ws.length → LI (newOf H H') v (ofN (orb (stepF ws) p k)) → Q v H'
abbrev N_places_in : List Str := ["wheel", "place", "found", "seen", "later"]
abbrev s_places_in : Stmt := topS 18
theorem sc_places_in : FnScope N_places_in ["wheel", "place"] (defScope s_places_in) := ⟨rfl, rfl, rfl, by decide +kernel, rfl, by decide +kernel, by decide +kernel⟩
theorem ok_places_in {P : Program} {w : World} {K : PySem.W.Frag} {mg : Str → Option Value} {base : Heap} (Tt : Tx K mg "places_in" s_places_in ["wheel", "place"]) (Bt : Bi mg) (F_led_in : Fd P w K mg base "led_in" 2 1 sp_led_in) :
    Fd P w K mg base "places_in" 2 2 sp_places_in := by
  refine Tt.ok sc_places_in (fun vs H Q E h => ?_) (fun f cdv A outer s H vs Q E hr h => ?_)
  · obtain ⟨_, _, rfl, _⟩ := h
    rfl
  obtain ⟨v1, _, rfl, ws, p, h, rfl, hp, hl, q⟩ := h
  have hu := hu_of hr
  refine ⟨_, pss_cons (ps_par (by rfl) sc_places_in.nd (i := 2) (j := 3) rfl rfl (by decide) rfl rfl (pa_cons (pe_lst (pa_cons (pv 1) (pa_nil))) (pa_cons (pe_disp (pps_cons (pv 1) (pe_bl) (pps_nil)) (by rfl) (by rfl) (fun z => by cases z) (by decide)) (pa_nil))) (by rfl))
    (pss_one (ps_while PassesOwn.never (pt_val (pe_bl)) (pss_cons (ps_set (i := 4) sc_places_in.nd rfl (Or.inl rfl) (pe_op op_mod (pe_fn F_led_in hr (by decide) rfl (pa_cons (pv 0) (pa_cons (pe_ix (k_ixL K) (pv 2) (pe_un un_neg (pe_int)) (fun _ _ => rfl)) (pa_nil)))) (e_len K Bt (pv 0))))
    (pss_cons (ps_if (pt_cmp (pc_din hu (pv 4) (pv 3)) rfl) (pss_one (ps_ret (pv 2))) (pss_nil))
    (pss_cons (ps_expr (k_bm K PySem.F.plainAttrs_list PySem.F.slot_list_append PySem.F.type_list_append mt_append (pv 2) (pa_cons (pv 4) (pa_nil))))
    (pss_one (ps_dput hu (pv 3) (pv 4) (pe_bl) rfl))))))), ?_⟩
  obtain ⟨a, rfl, ha⟩ := id h
  have hne : ws ≠ [] := fun e => by rw [e] at hp; exact absurd hp (Nat.not_lt_zero _)
  let f := stepF ws
  have hf : ∀ p, p < ws.length → f p < ws.length := fun p _ => stepF_lt hne p
  refine ⟨_, rfl, (by show 1 ≤ sizeLine; decide), fun L hL => fun S hS => ⟨_, rfl, upd_same, [(.inl (p : Int), .bl true)], rfl, (by show 1 ≤ 15; decide), _, _, rfl, ?_⟩⟩
  have hLS : L ≠ S := fun e => by rw [← e, upd_same] at hS; cases hS
  have hS0 : H S = none := by rw [upd_ne (Ne.symm hLS)] at hS; exact hS
  refine ⟨fun m σ Hc => ∃ k z kvs, m = ws.length - k ∧ 1 ≤ k ∧ σ = [some (.ref a), some (.int (p : Nat)), some (.ref L), some (.ref S), z] ∧ Same H Hc ∧ Hc L = some (.lst ((ofN (orb f p k)).map V.int)) ∧ Hc S = some (.dK kvs) ∧ kvs.length ≤ k ∧
    (∀ x : Nat, (valV kvs (.inl (x : Int))).isSome = decide (x ∈ orb f p k)) ∧ (orb f p k).Nodup, ?_, ?_⟩
  · refine ⟨ws.length - 1, 1, none, [(.inl (p : Int), .bl true)], rfl, Nat.le_refl _, rfl, ?_, ?_, upd_same, Nat.le_refl _, fun x => ?_, List.nodup_cons.mpr ⟨List.not_mem_nil, List.nodup_nil⟩⟩
    · exact same_mut (same_mut (same_new hL _) hS0 _) hS0 _
    · rw [upd_ne hLS, upd_ne hLS, upd_same]
      rfl
    · by_cases e : x = p
      · subst e
        rw [valV_pos rfl]
        exact (decide_eq_true (List.mem_cons_self)).symm
      · rw [valV_neg (fun z => e (by have := Sum.inl.inj z; omega))]
        exact (decide_eq_false (fun z => e (List.mem_singleton.mp z))).symm
  rintro m _ H1 ⟨k, z, kvs, rfl, hk, rfl, g1, hL1, hS1, hkl, hv, nd⟩
  have hkN := orb_len hf hp nd
  refine ⟨_, rfl, ?_⟩
  refine ⟨fun σ Hc => ∃ z kvs, σ = [some (.ref a), some (.int (p : Nat)), some (.ref L), some (.ref S), z] ∧ Same H Hc ∧ Hc L = some (.lst ((ofN (orb f p (k + 1))).map V.int)) ∧ Hc S = some (.dK kvs) ∧ kvs.length ≤ k + 1 ∧
    (∀ x : Nat, (valV kvs (.inl (x : Int))).isSome = decide (x ∈ orb f p (k + 1))) ∧ (orb f p (k + 1)).Nodup, ?_, ?_⟩
  · rintro σ' H' ⟨z, kvs, w1, w2, w3, w4, w5, w6, w7⟩
    have := orb_len hf hp w7
    exact ⟨ws.length - (k + 1), by omega, k + 1, z, kvs, rfl, by omega, w1, w2, w3, w4, w5, w6, w7⟩
  have hon : ofN (orb f p k) ≠ [] := fun e => by
    have := congrArg List.length e
    rw [ofN_len, orb_length] at this
    exact absurd this (by show ¬ k = 0; omega)
  have elast : (ofN (orb f p k)).getD ((ofN (orb f p k)).length - 1) 0 = (iter f (k - 1) p : Nat) := by
    rw [ofN_len, orb_length]
    exact orb_at (by omega)
  have hz : ledM ws (iter f (k - 1) p : Nat) % (ws.length : Int) = (iter f k p : Nat) := by
    have hlt := iter_lt hf (k - 1) p hp
    have e := led_step hne (z := ((iter f (k - 1) p : Nat) : Int)) (p := iter f (k - 1) p) (Int.emod_eq_of_lt (by omega) (by omega))
    rw [e]
    have ek : k = k - 1 + 1 := by omega
    rw [ek]
    rfl
  refine ⟨_, rfl, _, rfl, _, rfl, L, _, _, _, rfl, rfl, SqL.of hL1, atI_end hon, _, _, rfl, ws, _, h.sm g1, rfl, hne, hl, fun H2 g2 => ?_⟩
  have ha2 := g2 _ _ (g1 _ _ ha)
  refine ⟨_, rfl, a, _, _, rfl, .inr (SqT.of ha2), len_int, _, _, rfl, rfl, (by show (0 : Int) < _; omega), ?_⟩
  dsimp only
  rw [elast, hz]
  have hv' := hv (iter f k p)
  refine ⟨_, rfl, _, rfl, S, _, rfl, DGet.k (k := .inl ((iter f k p : Nat) : Int)) (g2 _ _ hS1), _, rfl, ?_⟩
  rw [hv']
  refine iteB (fun hc => ?_) (fun hc => ?_)
  · refine ⟨_, rfl, ?_⟩
    refine q _ _ k (g1.trans g2) (show iter f k p ∈ orb f p k from of_decide_eq_true hc) hkN ⟨L, rfl, ?_⟩
    rw [newOf_at hL]
    exact g2 _ _ hL1
  · have hni : iter f k p ∉ orb f p k := of_decide_eq_false hc
    refine ⟨_, rfl, ty_lst (g2 _ _ hL1), _, rfl, L, _, _, rfl, rfl, g2 _ _ hL1, ?_, ?_⟩
    · rw [List.length_map, ofN_len, orb_length, sizeLine_eq]
      omega
    refine ⟨_, rfl, _, rfl, S, _, rfl, DPut.k (k := .inl ((iter f k p : Nat) : Int)) (kvs := kvs) ?_ ?_, ?_⟩
    · rw [upd_ne (Ne.symm hLS)]
      exact g2 _ _ hS1
    · rw [sizeLine_eq]
      omega
    refine ⟨_, _, rfl, ?_, ?_, upd_same, ?_, fun x => ?_, ?_⟩
    · exact same_mut (same_mut (g1.trans g2) hL _) hS0 _
    · rw [upd_ne hLS, upd_same, orb_succ]
      unfold ofN
      rw [List.map_append, List.map_append]
      rfl
    · exact Nat.le_trans (length_putK _ _ _) (Nat.succ_le_succ hkl)
    · rw [valV_put, orb_succ]
      by_cases e : x = iter f k p
      · subst e
        rw [if_pos rfl]
        exact (decide_eq_true (List.mem_append_right _ (List.mem_singleton.mpr rfl))).symm
      · rw [if_neg (fun z => e (by have := Sum.inl.inj z; omega)), hv x]
        by_cases hx : x ∈ orb f p k
        · rw [decide_eq_true hx, decide_eq_true (List.mem_append_left _ hx)]
        · rw [decide_eq_false hx, decide_eq_false (fun z => by
            rcases List.mem_append.mp z with z | z
            · exact hx z
            · exact e (List.mem_singleton.mp z))]
    · rw [orb_succ]
      refine List.nodup_append.mpr ⟨nd, List.nodup_cons.mpr ⟨List.not_mem_nil, List.nodup_nil⟩, fun x hx y hy e => ?_⟩
      rw [List.mem_singleton.mp hy] at e
      rw [e] at hx
      exact hni hx
end Rw

namespace Rw
open PySem PySem.Spec PyProof.Rows L2 Mth

theorem fm_ifg {α β : Type} (l : List α) (p : α → Bool) (g : α → β) : l.filterMap (fun i => if p i = true then some (g i) else none) = (l.filter p).map g := by
  induction l with
  | nil => rfl
  | cons x xs ih =>
    rw [List.filterMap_cons, List.filter_cons]
    by_cases h : p x = true
    · rw [if_pos h, if_pos h, ih]
      rfl
    · rw [if_neg h, if_neg h, ih]
theorem ixN_nat {n k : Nat} (h : k < n) : ixN n ((k : Nat) : Int) = some k := by
  unfold ixN
  rw [if_pos (by omega), if_pos (by omega)]
  rfl
theorem ofN_at {l : List Nat} {i : Nat} : (ofN l).getD i 0 = ((l.getD i 0 : Nat) : Int) := by
  unfold ofN
  rw [List.getD_eq_getElem?_getD, List.getD_eq_getElem?_getD, List.getElem?_map]
  cases l[i]? <;> rfl
theorem ofN_set {l : List Nat} {i v : Nat} : ((ofN l).map V.int).set i (.int ((v : Nat) : Int)) = (ofN (l.set i v)).map V.int := by
  unfold ofN
  rw [List.map_set, List.map_set]
theorem ofN_get {l : List Nat} {i : Nat} (h : i < l.length) : ((ofN l).map V.int)[i]? = some (.int ((l.getD i 0 : Nat) : Int)) := by
  unfold ofN
  rw [List.getElem?_map, List.getElem?_map, List.getElem?_eq_getElem h, getD_of (List.getElem?_eq_getElem h)]
  rfl
theorem vint_eq {a b : Int} : decide (V.int a = V.int b) = decide (a = b) := by
  by_cases h : a = b
  · rw [h, decide_eq_true rfl, decide_eq_true rfl]
  · rw [decide_eq_false h, decide_eq_false (fun e => h (V.int.inj e))]
def goalsM (ws : List Int) : List Nat := (List.range ws.length).map (stepF ws)
theorem goalsM_len (ws : List Int) : (goalsM ws).length = ws.length := by unfold goalsM; rw [List.length_map, List.length_range]
theorem goalsM_at {ws : List Int} {i : Nat} (h : i < ws.length) : (goalsM ws).getD i 0 = stepF ws i := by
  unfold goalsM
  rw [List.getD_eq_getElem?_getD, List.getElem?_map, List.getElem?_range h]
  rfl
def ownM (ws : List Int) : List Nat := (List.range ws.length).filter (perB (stepF ws) ws.length)
def sp_own_in : Sp := fun vs H Q _ => ∃ v1, vs = [v1] ∧ ∃ (ws : List Int), TI H v1 ws ∧ ws ≠ [] ∧ ws.length < 1000 ∧ ∀ v H', Same H H' → LI H' v (ofN (ownM ws)) → Q v H'
theorem mem_at {l : List Nat} {p : Nat} : (l ++ [p]).getD ((l ++ [p]).length - 1) 0 = p := by
  rw [List.length_append, List.getD_eq_getElem?_getD]
  have e : l.length + [p].length - 1 = l.length := by simp
  rw [e, List.getElem?_append_right (Nat.le_refl _), Nat.sub_self]
  rfl
abbrev N_own_in : List Str := ["wheel", "goals", "many", "goal", "left", "number", "place", "own"]
abbrev s_own_in : Stmt := topS 19
theorem sc_own_in : FnScope N_own_in ["wheel"] (defScope s_own_in) := ⟨rfl, rfl, rfl, by decide +kernel, rfl, by decide +kernel, by decide +kernel⟩
theorem ok_own_in {P : Program} {w : World} {K : PySem.W.Frag} {mg : Str → Option Value} {base : Heap} (Tt : Tx K mg "own_in" s_own_in ["wheel"]) (Bt : Bi mg) :
    Fd P w K mg base "own_in" 1 1 sp_own_in := by
  refine Tt.ok sc_own_in (fun vs H Q E h => ?_) (fun f cdv A outer s H vs Q E hr h => ?_)
  · obtain ⟨_, rfl, _⟩ := h
    rfl
  obtain ⟨v1, rfl, ws, h, hne, hl, q⟩ := h
  refine ⟨_, pss_cons (ps_setLcS (i := 1) (own := [("number", 5)]) rfl sc_own_in.nd rfl rfl (sw_true rfl rfl rfl (by decide +kernel)) (k_tup K (pv 0)) (blkOk_by (N := N_own_in) (sc := defScope s_own_in) (by decide +kernel)) (fun _ _ _ _ _ => pg_name (i := 5) sc_own_in.nd rfl (Or.inl rfl)) (fun _ _ _ _ _ => pts_nil) (fun _ _ _ _ _ => pe_op op_mod (pv 5) (e_len K Bt (pv 0))))
    (pss_cons (ps_set (i := 2) sc_own_in.nd rfl (Or.inl rfl) (pe_op op_rep (pe_lst (pa_cons (pe_int) (pa_nil))) (e_len K Bt (pv 0))))
    (pss_cons (ps_forS PassesOwn.never rfl (k_list K (pv 1)) (pg_name (i := 3) sc_own_in.nd rfl (Or.inl rfl)) (pss_one (ps_augS (pv 2) (pv 3) (k_getL K) (pe_int) ip_add set_list)))
    (pss_cons (ps_setLcS (i := 4) (own := [("place", 6), ("own", 7)]) rfl sc_own_in.nd rfl rfl (sw_true rfl rfl rfl (by decide +kernel)) (k_enum K Bt (pv 2)) (blkOk_by (N := N_own_in) (sc := defScope s_own_in) (by decide +kernel)) (fun _ _ _ _ _ => k_tg K 2 rfl (pgs_cons (pg_name (i := 6) sc_own_in.nd rfl (Or.inl rfl)) (pgs_cons (pg_name (i := 7) sc_own_in.nd rfl (Or.inl rfl)) (pgs_nil)))) (fun _ _ _ _ _ => pts_one (pt_cmpR op_eq (pv 7) (pe_int) (nomark _))) (fun _ _ _ _ _ => pv 6))
    (pss_cons (ps_while PassesOwn.never (pt_cmpR op_gt (e_len K Bt (pv 4)) (pe_int) (nomark _)) (pss_cons (ps_set (i := 3) sc_own_in.nd rfl (Or.inl rfl) (pe_ix (k_ixL K) (pv 1) (pe_bm0 PySem.F.plainAttrs_list PySem.F.slot_list_pop PySem.F.type_list_pop mt_pop (pv 4)) (fun _ _ => rfl)))
    (pss_cons (ps_augS (pv 2) (pv 3) (k_getL K) (pe_int) ip_sub set_list)
    (pss_one (ps_if (pt_cmpR op_eq (pe_ix (k_ixL K) (pv 2) (pv 3) (fun _ _ => rfl)) (pe_int) (nomark _)) (pss_one (ps_expr (k_bm K PySem.F.plainAttrs_list PySem.F.slot_list_append PySem.F.type_list_append mt_append (pv 4) (pa_cons (pv 3) (pa_nil))))) (pss_nil))))))
    (pss_one (ps_ret (pe_lcS (own := [("place", 6), ("own", 7)]) rfl sc_own_in.nd (k_enum K Bt (pv 2)) (blkOk_by (N := N_own_in) (sc := defScope s_own_in) (by decide +kernel)) (fun _ _ _ _ _ => k_tg K 2 rfl (pgs_cons (pg_name (i := 6) sc_own_in.nd rfl (Or.inl rfl)) (pgs_cons (pg_name (i := 7) sc_own_in.nd rfl (Or.inl rfl)) (pgs_nil)))) (fun _ _ _ _ _ => pts_one (pt_cmpR op_gt (pv 7) (pe_int) (nomark _))) (fun _ _ _ _ _ => pv 6)))))))), ?_⟩
  obtain ⟨a, rfl, ha⟩ := id h
  let N := ws.length
  let f := stepF ws
  have hpos : 0 < N := pos_of_ne hne
  have hf : ∀ p, p < N → f p < N := fun p _ => stepF_lt hne p
  refine ⟨_, rfl, a, rfl, ⟨_, SqT.of ha⟩, Int, rI, _, _, _, fun i => some ((f i : Nat) : Int), src_tupI, by omega, fun H' g => SqT.of (g _ _ ha), fun i hi => rfl,
    fun i hi H' g Q' q' => q' H' (Same.refl _), .inr ⟨km_I, fun i b hi hb H' g Q' q' => ?_⟩, fun G ys H1 hG g1 hY _ hp => ?_⟩
  · refine ⟨_, rfl, _, rfl, a, _, _, rfl, .inr (SqT.of (g _ _ ha)), len_int, _, _, rfl, rfl, (by show (0 : Int) < _; omega), q' _ _ (Same.refl _) ?_⟩
    rw [← Option.some.inj hb, stepF_eq hne hi]
    rfl
  rw [fm_some] at hp
  have ey : ys = (ofN (goalsM ws)).map V.int := by
    rw [paired_I hp]
    unfold ofN goalsM
    rw [List.map_map, List.map_map, List.map_map]
    rfl
  subst ey
  clear hp
  refine ⟨(by show 1 ≤ sizeLine; decide), fun T hT => ⟨_, rfl, a, _, _, rfl, .inr (SqT.of (same_new hT _ _ _ (g1 _ _ ha))), len_int, T, _, _, rfl, rfl, upd_same, by omega, by omega, ?_, fun M hM => ?_⟩⟩
  · rw [sizeLine_eq]
    show 1 * _ ≤ _
    omega
  have hMT : M ≠ T := fun e => by rw [e, upd_same] at hM; cases hM
  have hM1 : H1 M = none := by rw [upd_ne hMT] at hM; exact hM
  have hMH : H M = none := g1.free hM1
  have hTH : H T = none := g1.free hT
  have hMG : M ≠ G := fun e => by rw [e] at hM1; rw [hM1] at hY; cases hY
  have hTG : T ≠ G := fun e => by rw [e] at hT; rw [hT] at hY; cases hY
  let st (m : List Nat) (Hc : Hp) : Prop := Same H Hc ∧ Hc G = some (.lst ((ofN (goalsM ws)).map V.int)) ∧ Hc M = some (.lst ((ofN m).map V.int)) ∧ m.length = N
  refine ⟨_, rfl, G, rfl, ⟨(ofN (goalsM ws)).map V.int, SqL.of ?_⟩, fun Hc => SqL K Hc G ((ofN (goalsM ws)).map V.int), (ofN (goalsM ws)).length, _,
    fun i σ Hc => ∃ z m, σ = [some (.ref a), some (.ref G), some (.ref M), z, none, none, none, none] ∧ st m Hc ∧ ∀ q, q < N → m.getD q 0 = ((List.range i).filter fun p => f p == q).length,
    src_lstI, ⟨none, List.replicate N 0, rfl, ⟨?_, ?_, ?_, List.length_replicate⟩, fun q hq => ?_⟩, ?_, ?_, ?_⟩
  · rw [upd_ne (Ne.symm hMG), upd_ne (Ne.symm hTG)]
    exact hY
  · exact same_mut (same_mut g1 hTH _) hMH _
  · rw [upd_ne (Ne.symm hMG), upd_ne (Ne.symm hTG)]
    exact hY
  · rw [upd_same]
    congr 2
    show (List.replicate ws.length [V.int 0]).flatten = (ofN (List.replicate ws.length 0)).map V.int
    unfold ofN
    rw [List.map_replicate, List.map_replicate]
    generalize ws.length = n
    induction n with
    | zero => rfl
    | succ n ih =>
      rw [List.replicate_succ, List.replicate_succ, List.flatten_cons, ih]
      rfl
  · rw [List.getD_eq_getElem?_getD, List.getElem?_replicate]
    split <;> rfl
  · rintro i σ Hc ⟨z, m, _, hs, _⟩
    exact SqL.of hs.2.1
  · rintro i _ H2 H3 hi ⟨z, m, rfl, ⟨s1, s2, s3, s4⟩, hc⟩ e
    rw [ofN_len, goalsM_len] at hi
    have hfi := hf i hi
    have eg : (ofN (goalsM ws)).getD i 0 = ((f i : Nat) : Int) := by rw [ofN_at, goalsM_at hi]
    refine ⟨_, rfl, _, rfl, M, _, f i, _, rfl, congrArg V.int eg, SqL.of (e _ _ s3), ofN_get (by omega), _, _, rfl, rfl, M, _, _, f i, rfl, rfl, e _ _ s3, ?_, ?_⟩
    · rw [eg, List.length_map, ofN_len]
      exact ixN_nat (by omega)
    · refine ⟨_, m.set (f i) (m.getD (f i) 0 + 1), rfl, ⟨same_mut (s1.trans e) hMH _, ?_, ?_, ?_⟩, fun q hq => ?_⟩
      · rw [upd_ne (Ne.symm hMG)]
        exact e _ _ s2
      · rw [upd_same, ← ofN_set]
        rfl
      · rw [List.length_set]
        exact s4
      · rw [List.range_succ, List.filter_append, List.length_append, ← hc q hq]
        by_cases e : f i = q
        · subst e
          rw [getD_set_same (by omega)]
          simp
        · rw [getD_set_ne e]
          simp [e]
  rintro _ H2 ⟨z, m, rfl, ⟨s1, s2, s3, s4⟩, hc⟩
  rw [ofN_len, goalsM_len] at hc
  have P0 := Peel.start hf s4 fun q hq => by
    rw [hc q hq]
    unfold cntR
    congr 1
  refine ⟨_, rfl, M, _, rfl, .inl ⟨SqL.of s3, Int, rI, _, _, _, fun i => if decide (V.int ((ofN m).getD i 0) = V.int 0) = true then some ((i : Nat) : Int) else none, src_enumLI, by rw [ofN_len]; omega, fun H' g => SqL.of (g _ _ s3), fun i hi => rfl,
    fun i hi H' g Q' q' => ⟨_, rfl, rfl, _, rfl, ifs_some.mp (q' H' (Same.refl _))⟩, .inr ⟨km_I, fun i b hi hb H' g Q' q' => ⟨_, rfl, q' _ _ (Same.refl _) (congrArg V.int (if_some hb).symm)⟩⟩, fun L ys H3 hL g3 hY3 _ hp => ?_⟩⟩
  rw [fm_ifg] at hp
  have ey : ys = (ofN ((List.range N).filter fun q => decide (m.getD q 0 = 0))).map V.int := by
    rw [paired_I hp, ofN_len, s4]
    have e : ((List.range N).filter fun i => decide (V.int ((ofN m).getD i 0) = V.int 0)) = (List.range N).filter fun q => decide (m.getD q 0 = 0) := filt_same fun x _ => by
      rw [vint_eq, ofN_at]
      by_cases h : m.getD x 0 = 0
      · rw [h]; rfl
      · rw [decide_eq_false h, decide_eq_false (by omega)]
    rw [e]
    rfl
  subst ey
  clear hp
  have hLH : H L = none := s1.free hL
  have hLM : L ≠ M := fun e => by rw [e] at hL; rw [hL] at s3; cases s3
  have hLG : L ≠ G := fun e => by rw [e] at hL; rw [hL] at s2; cases s2
  let inv (R : List Nat) (σ : L2.St) (Hc : Hp) : Prop := ∃ z m left, σ = [some (.ref a), some (.ref G), some (.ref M), z, some (.ref L), none, none, none] ∧ st m Hc ∧ Hc L = some (.lst ((ofN left).map V.int)) ∧ Peel f N m left R
  refine ⟨fun μ σ Hc => ∃ R, μ = N - R.length ∧ inv R σ Hc, ⟨N, [], rfl, z, m, _, rfl, ⟨s1.trans g3, g3 _ _ s2, g3 _ _ s3, s4⟩, hY3, P0⟩, ?_⟩
  clear P0 hc hY3
  rintro μ _ H4 ⟨R, rfl, z, m, left, rfl, ⟨s1, s2, s3, s4⟩, s5, Pl⟩
  refine ⟨_, rfl, L, _, _, rfl, .inl (SqL.of s5), len_int, _, _, rfl, rfl, _, rfl, ?_⟩
  rw [ofN_len]
  refine iteB (fun hc => ?_) (fun hc => ?_)
  · have hc : left ≠ [] := fun e => by rw [e] at hc; exact absurd (of_decide_eq_true hc) (by decide)
    have el : left = left.dropLast ++ [left.getLast hc] := (List.dropLast_concat_getLast hc).symm
    generalize hl0 : left.dropLast = l0 at el
    generalize hpp : left.getLast hc = p at el
    subst el
    clear hpp hl0 hc
    obtain ⟨hp, h1, hz, hnz, hfew⟩ := Pl.step hf
    refine ⟨inv (p :: R), fun σ' H' w => ⟨N - (p :: R).length, ?_, p :: R, rfl, w⟩, ?_⟩
    · rw [List.length_cons]
      omega
    have hfp := hf p hp
    refine ⟨_, rfl, _, rfl, ty_lst s5, L, _, .int (p : Nat), rfl, rfl, s5, ?_, G, _, _, _, rfl, rfl, SqL.of ?_, atI_int (ws := ofN (goalsM ws)) (i := ((p : Nat) : Int)) (by omega) (by rw [ofN_len, goalsM_len]; omega), ?_⟩
    · rw [List.length_map, ofN_len, ofN_get (by rw [List.length_append]; show l0.length + 1 - 1 < l0.length + 1; omega), mem_at]
    · rw [upd_ne (Ne.symm hLG)]
      exact s2
    have eg : (ofN (goalsM ws)).getD ((p : Nat) : Int).toNat 0 = ((f p : Nat) : Int) := by
      show (ofN (goalsM ws)).getD p 0 = _
      rw [ofN_at, goalsM_at hp]
    rw [eg]
    have edl : ((ofN (l0 ++ [p])).map V.int).dropLast = (ofN l0).map V.int := by
      unfold ofN
      rw [List.map_append, List.map_append]
      exact List.dropLast_concat
    rw [edl]
    have s3' : upd H4 L (.lst ((ofN l0).map V.int)) M = some (.lst ((ofN m).map V.int)) := by rw [upd_ne (Ne.symm hLM)]; exact s3
    refine ⟨_, rfl, _, rfl, M, _, f p, _, rfl, rfl, SqL.of s3', ofN_get (by omega), _, _, rfl, rfl, M, _, _, f p, rfl, rfl, s3', ?_, ?_⟩
    · rw [List.length_map, ofN_len]
      exact ixN_nat (by omega)
    have ev : ((m.getD (f p) 0 : Nat) : Int) - 1 = ((m.getD (f p) 0 - 1 : Nat) : Int) := by omega
    dsimp only
    rw [ev, ofN_set]
    have hx : (m.set (f p) (m.getD (f p) 0 - 1)).length = N := by rw [List.length_set]; exact s4
    have eat : (ofN (m.set (f p) (m.getD (f p) 0 - 1))).getD ((f p : Nat) : Int).toNat 0 = ((m.getD (f p) 0 - 1 : Nat) : Int) := by
      show (ofN _).getD (f p) 0 = _
      rw [ofN_at, getD_set_same (by omega)]
    refine ⟨_, rfl, _, rfl, M, _, _, _, rfl, rfl, SqL.of upd_same, atI_int (by omega) (by rw [ofN_len, hx]; omega), rfl, _, rfl, ?_⟩
    rw [eat, vint_eq]
    have t1 : Same H (upd (upd H4 L (.lst ((ofN l0).map V.int))) M (.lst ((ofN (m.set (f p) (m.getD (f p) 0 - 1))).map V.int))) := same_mut (same_mut s1 hLH _) hMH _
    have t2 : upd (upd H4 L (.lst ((ofN l0).map V.int))) M (.lst ((ofN (m.set (f p) (m.getD (f p) 0 - 1))).map V.int)) G = some (.lst ((ofN (goalsM ws)).map V.int)) := by
      rw [upd_ne (Ne.symm hMG), upd_ne (Ne.symm hLG)]
      exact s2
    have t5 : upd (upd H4 L (.lst ((ofN l0).map V.int))) M (.lst ((ofN (m.set (f p) (m.getD (f p) 0 - 1))).map V.int)) L = some (.lst ((ofN l0).map V.int)) := by
      rw [upd_ne hLM, upd_same]
    refine iteB (fun hc => ?_) (fun hc => ?_)
    · have hc : ((m.getD (f p) 0 - 1 : Nat) : Int) = 0 := of_decide_eq_true hc
      refine ⟨_, rfl, ty_lst t5, _, rfl, L, _, _, rfl, rfl, t5, ?_, _, _, _, rfl, ⟨same_mut t1 hLH _, ?_, ?_, hx⟩, ?_, hz (by omega)⟩
      · have := nodup_leN _ (List.range N) Pl.nd fun x hx => List.mem_range.mpr (Pl.lt x hx)
        rw [List.length_range, List.length_append] at this
        rw [List.length_map, ofN_len, sizeLine_eq]
        omega
      · rw [upd_ne (Ne.symm hLG)]
        exact t2
      · rw [upd_ne (Ne.symm hLM), upd_same]
      · rw [upd_same]
        unfold ofN
        rw [List.map_append, List.map_append]
        rfl
    · have hc : ¬ ((m.getD (f p) 0 - 1 : Nat) : Int) = 0 := of_decide_eq_false hc
      exact ⟨_, _, _, rfl, ⟨t1, t2, upd_same, hx⟩, t5, hnz (by omega)⟩
  · have hc : left = [] := by
      have := of_decide_eq_false hc
      exact List.length_eq_zero_iff.mp (by omega)
    subst hc
    refine ⟨_, rfl, M, _, rfl, .inl ⟨SqL.of s3, Int, rI, _, _, _, fun i => if decide ((ofN m).getD i 0 > 0) = true then some ((i : Nat) : Int) else none, src_enumLI, by rw [ofN_len]; omega, fun H' g => SqL.of (g _ _ s3), fun i hi => rfl,
      fun i hi H' g Q' q' => ⟨_, rfl, _, _, rfl, rfl, _, rfl, ifs_some.mp (q' H' (Same.refl _))⟩, .inr ⟨km_I, fun i b hi hb H' g Q' q' => ⟨_, rfl, q' _ _ (Same.refl _) (congrArg V.int (if_some hb).symm)⟩⟩, fun D ys H5 hD g5 hY5 _ hp => ?_⟩⟩
    rw [fm_ifg] at hp
    refine q _ _ (s1.trans g5) ⟨D, rfl, ?_⟩
    rw [hY5, paired_I hp, ofN_len, s4]
    have e : ((List.range N).filter fun i => decide ((ofN m).getD i 0 > 0)) = ownM ws := filt_same fun x hx => by
      rw [← Pl.done (List.mem_range.mp hx), ofN_at]
      by_cases h : 0 < m.getD x 0
      · rw [decide_eq_true h, decide_eq_true (by omega)]
      · rw [decide_eq_false h, decide_eq_false (by omega)]
    rw [e]
    rfl
end Rw

namespace Rw
open PySem PySem.Spec PyProof.Rows L2 Mth

/-- the first place that comes back -/
def firstM (ws : List Int) : Nat := (ownM ws).getD 0 0
theorem own_ne {ws : List Int} (h : ws ≠ []) : ownM ws ≠ [] := fun e => by
  obtain ⟨p, hp, hper⟩ := per_some (f := stepF ws) (N := ws.length) (fun p _ => stepF_lt h p) (pos_of_ne h)
  have : p ∈ ownM ws := List.mem_filter.mpr ⟨List.mem_range.mpr hp, hper⟩
  rw [e] at this
  cases this
theorem first_in {ws : List Int} (h : ws ≠ []) : firstM ws < ws.length ∧ ∃ j, 1 ≤ j ∧ j ≤ ws.length ∧ iter (stepF ws) j (firstM ws) = firstM ws := by
  have hp := pos_of_ne (own_ne h)
  have e : firstM ws = (ownM ws)[0] := by
    unfold firstM
    exact getD_of (List.getElem?_eq_getElem hp)
  have hm : firstM ws ∈ ownM ws := by
    rw [e]
    exact List.getElem_mem hp
  have z := List.mem_filter.mp hm
  exact ⟨List.mem_range.mp z.1, perB_iff.mp z.2⟩
theorem first_of {ws : List Int} {k : Nat} (hk : k < ws.length) (hp : perB (stepF ws) ws.length k = true) (hn : ∀ j, j < k → perB (stepF ws) ws.length j = false) : firstM ws = k := by
  unfold firstM ownM
  have e : ws.length = k + ((ws.length - k - 1) + 1) := by omega
  have e0 : (List.range k).filter (perB (stepF ws) ws.length) = [] := List.filter_eq_nil_iff.mpr fun x hx => by
    rw [hn x (List.mem_range.mp hx)]
    exact Bool.false_ne_true
  have e1 : List.range ws.length = List.range k ++ (k :: ((List.range (ws.length - k - 1)).map Nat.succ).map (k + ·)) := by
    conv => lhs; rw [e]
    rw [List.range_add, List.range_succ_eq_map]
    rfl
  rw [e1, List.filter_append, e0, List.nil_append, List.filter_cons, hp]
  rfl
def sp_come_back_in : Sp := fun vs H Q _ => ∃ v1, vs = [v1] ∧ ∃ (ws : List Int), TI H v1 ws ∧ ws ≠ [] ∧ ws.length < 1000 ∧
  ∀ v H', Same H H' → (∃ a b r, v = .ref a ∧ H' a = some (.tup [.int (firstM ws : Nat), .int b, .int r])) → Q v H'
abbrev N_come_back_in : List Str := ["wheel", "place", "number", "beats"]
abbrev s_come_back_in : Stmt := topS 20
theorem sc_come_back_in : FnScope N_come_back_in ["wheel"] (defScope s_come_back_in) := ⟨rfl, rfl, rfl, by decide +kernel, rfl, by decide +kernel, by decide +kernel⟩
theorem ok_come_back_in {P : Program} {w : World} {K : PySem.W.Frag} {mg : Str → Option Value} {base : Heap} (Tt : Tx K mg "come_back_in" s_come_back_in ["wheel"]) (Bt : Bi mg) (F_own_in : Fd P w K mg base "own_in" 1 1 sp_own_in) (F_led_in : Fd P w K mg base "led_in" 2 1 sp_led_in) :
    Fd P w K mg base "come_back_in" 1 2 sp_come_back_in := by
  refine Tt.ok sc_come_back_in (fun vs H Q E h => ?_) (fun f cdv A outer s H vs Q E hr h => ?_)
  · obtain ⟨_, rfl, _⟩ := h
    rfl
  obtain ⟨v1, rfl, ws, h, hne, hl, q⟩ := h
  refine ⟨_, pss_cons (ps_set (i := 1) sc_come_back_in.nd rfl (Or.inl rfl) (pe_ix (k_ixL K) (pe_fn F_own_in hr (by decide) rfl (pa_cons (pv 0) (pa_nil))) (pe_int) (fun _ _ => rfl)))
    (pss_cons (ps_par (by rfl) sc_come_back_in.nd (i := 2) (j := 3) rfl rfl (by decide) rfl rfl (pa_cons (pe_fn F_led_in hr (by decide) rfl (pa_cons (pv 0) (pa_cons (pv 1) (pa_nil)))) (pa_cons (pe_int) (pa_nil))) (by rfl))
    (pss_cons (ps_while PassesOwn.never (pt_cmpR op_ne (pe_op op_mod (pv 2) (e_len K Bt (pv 0))) (pv 1) (nomark _)) (pss_one (ps_par (by rfl) sc_come_back_in.nd (i := 2) (j := 3) rfl rfl (by decide) rfl rfl (pa_cons (pe_fn F_led_in hr (by decide) rfl (pa_cons (pv 0) (pa_cons (pv 2) (pa_nil)))) (pa_cons (pe_op op_add (pv 3) (pe_int)) (pa_nil))) (by rfl))))
    (pss_one (ps_ret (pe_tup (pa_cons (pv 1) (pa_cons (pv 3) (pa_cons (pe_op op_fdiv (pe_op op_sub (pv 2) (pv 1)) (e_len K Bt (pv 0))) (pa_nil))))))))), ?_⟩
  obtain ⟨a, rfl, ha⟩ := id h
  have hpos := pos_of_ne hne
  obtain ⟨hk, j, hj1, hj2, hj⟩ := first_in hne
  have hf : ∀ p, p < ws.length → stepF ws p < ws.length := fun p _ => stepF_lt hne p
  refine ⟨_, rfl, _, rfl, ws, h, hne, hl, fun v H1 g1 ⟨L, e, hL⟩ => ?_⟩
  subst e
  have hpo := pos_of_ne (own_ne hne)
  refine ⟨L, _, _, _, rfl, rfl, SqL.of hL, atI_int (i := 0) (by decide) (by rw [ofN_len]; omega), ?_⟩
  have e0 : (ofN (ownM ws)).getD (0 : Int).toNat 0 = ((firstM ws : Nat) : Int) := ofN_at
  rw [e0]
  refine ⟨_, rfl, _, rfl, _, _, rfl, ws, _, h.sm g1, rfl, hne, hl, fun H2 g2 => ⟨_, _, rfl, ?_⟩⟩
  refine ⟨fun m σ Hc => ∃ (b : Nat) (z : Int), m = j - b ∧ 1 ≤ b ∧ b ≤ j ∧ σ = [some (.ref a), some (.int (firstM ws : Nat)), some (.int z), some (.int (b : Nat))] ∧ Same H Hc ∧ z % (ws.length : Int) = (iter (stepF ws) b (firstM ws) : Nat), ⟨j - 1, 1, _, rfl, Nat.le_refl _, hj1, rfl, g1.trans g2, ?_⟩, ?_⟩
  · exact led_step hne (Int.emod_eq_of_lt (by omega) (by omega))
  rintro m _ H3 ⟨b, z, rfl, hb1, hb2, rfl, g3, hz⟩
  have ha3 := g3 _ _ ha
  refine ⟨_, rfl, _, rfl, a, _, _, rfl, .inr (SqT.of ha3), len_int, _, _, rfl, rfl, (by show (0 : Int) < _; omega), _, rfl, rfl, _, rfl, ?_⟩
  dsimp only
  have hd : decide (V.int (z % (ws.length : Int)) = V.int ((firstM ws : Nat) : Int)) = decide (iter (stepF ws) b (firstM ws) = firstM ws) := by
    rw [hz, vint_eq]
    exact decide_eq_decide.mpr (by omega)
  refine iteB (fun hc => ?_) (fun hc => ?_) <;> rw [hd] at hc
  rotate_left
  · have hc : iter (stepF ws) b (firstM ws) = firstM ws := by simpa using hc
    refine ⟨_, rfl, _, rfl, _, rfl, _, rfl, _, _, rfl, rfl, _, rfl, a, _, _, rfl, .inr (SqT.of ha3), len_int, _, _, rfl, rfl, ⟨by omega, by omega⟩, (by show 3 ≤ sizeLine; decide), fun p hp => ?_⟩
    exact q _ _ (g3.trans (same_new hp _)) ⟨p, _, _, rfl, upd_same⟩
  · have hc : iter (stepF ws) b (firstM ws) ≠ firstM ws := by simpa using hc
    have hbj : b ≠ j := fun e => hc (by rw [e]; exact hj)
    refine ⟨fun σ Hc => ∃ (z : Int), σ = [some (.ref a), some (.int (firstM ws : Nat)), some (.int z), some (.int ((b + 1 : Nat) : Int))] ∧ Same H Hc ∧ z % (ws.length : Int) = (iter (stepF ws) (b + 1) (firstM ws) : Nat), ?_, ?_⟩
    · rintro σ' H' ⟨z, w1, w2, w3⟩
      exact ⟨j - (b + 1), by omega, b + 1, z, rfl, by omega, by omega, w1, w2, w3⟩
    · refine ⟨_, rfl, _, rfl, _, _, rfl, ws, z, h.sm g3, rfl, hne, hl, fun H4 g4 => ?_⟩
      refine ⟨_, rfl, _, _, rfl, rfl, _, _, rfl, _, rfl, g3.trans g4, ?_⟩
      exact led_step hne hz

def sp_back_L : Sp := fun vs H Q _ => ∃ v1, vs = [v1] ∧ ∃ (ws : List Int), TI H v1 ws ∧ ws ≠ [] ∧ ws.length < 1000 ∧
  ∀ v H', Same H H' → (∃ (a : Addr) (b : Nat) (r : Int), v = .ref a ∧ H' a = some (.tup [.int (firstM ws : Nat), .int (b : Nat), .int r]) ∧ 1 ≤ b ∧ b ≤ ws.length ∧ iter (stepF ws) b (firstM ws) = firstM ws) → Q v H'
abbrev N_back_L : List Str := ["_law_disk_here", "_law_ring_so", "_law_k", "_law_z", "_law_lap"]
abbrev s_back_L : Stmt := topS 47
theorem sc_back_L : FnScope N_back_L ["_law_disk_here"] (defScope s_back_L) := ⟨rfl, rfl, rfl, by decide +kernel, rfl, by decide +kernel, by decide +kernel⟩
theorem ok_back_L {P : Program} {w : World} {K : PySem.W.Frag} {mg : Str → Option Value} {base : Heap} (Tt : Tx K mg "_law_back" s_back_L ["_law_disk_here"]) (Bt : Bi mg) (F_led_L : Fd P w K mg base "_law_led" 2 1 sp_led_L) :
    Fd P w K mg base "_law_back" 1 2 sp_back_L := by
  refine Tt.ok sc_back_L (fun vs H Q E h => ?_) (fun f cdv A outer s H vs Q E hr h => ?_)
  · obtain ⟨_, rfl, _⟩ := h
    rfl
  obtain ⟨v1, rfl, ws, h, hne, hl, q⟩ := h
  refine ⟨_, pss_cons (ps_set (i := 1) sc_back_L.nd rfl (Or.inl rfl) (e_len K Bt (pv 0)))
    (pss_cons (ps_forS PassesOwn.never rfl (pi_range1 rfl Bt.range (pa_cons (pv 1) (pa_nil))) (pg_name (i := 2) sc_back_L.nd rfl (Or.inl rfl)) (pss_cons (ps_set (i := 3) sc_back_L.nd rfl (Or.inl rfl) (pv 2))
    (pss_one (ps_forS PassesOwn.never rfl (pi_range1 rfl Bt.range (pa_cons (pv 1) (pa_nil))) (pg_name (i := 4) sc_back_L.nd rfl (Or.inl rfl)) (pss_cons (ps_set (i := 3) sc_back_L.nd rfl (Or.inl rfl) (pe_fn F_led_L hr (by decide) rfl (pa_cons (pv 0) (pa_cons (pv 3) (pa_nil)))))
    (pss_one (ps_if (pt_cmpR op_eq (pe_op op_mod (e_int Bt (pv 3)) (pv 1)) (pv 2) (nomark _)) (pss_one (ps_ret (pe_tup (pa_cons (pv 2) (pa_cons (pe_op op_add (pv 4) (pe_int)) (pa_cons (pe_op op_fdiv (pe_op op_sub (pv 3) (pv 2)) (pv 1)) (pa_nil))))))) (pss_nil))))))))
    (pss_one (ps_ret (pe_non)))), ?_⟩
  obtain ⟨a, rfl, ha⟩ := id h
  have hpos := pos_of_ne hne
  have hf : ∀ p, p < ws.length → stepF ws p < ws.length := fun p _ => stepF_lt hne p
  refine ⟨_, rfl, a, _, _, rfl, .inr (SqT.of ha), len_int, ?_⟩
  refine ⟨_, rfl, _, rfl, by omega, by omega, fun _ => True, ws.length, _, fun i σ H' => ∃ x y z, σ = [some (.ref a), some (.int (ws.length : Nat)), x, y, z] ∧ Same H H' ∧ ∀ j, j < i → perB (stepF ws) ws.length j = false,
    src_rng0, ⟨none, none, none, rfl, Same.refl _, fun j hj => absurd hj (Nat.not_lt_zero _)⟩, fun _ _ _ _ => True.intro, ?_, ?_⟩
  · rintro k _ H1 H2 hk ⟨x, y, z, rfl, g1, hn⟩ e
    refine ⟨_, rfl, ?_⟩
    refine ⟨_, rfl, _, rfl, by omega, by omega, fun _ => True, ws.length, _, fun i σ H' => ∃ (z : Int) (y : Option V), σ = [some (.ref a), some (.int (ws.length : Nat)), some (.int (k : Nat)), some (.int z), y] ∧ Same H H' ∧ z % (ws.length : Int) = (iter (stepF ws) i k : Nat) ∧ ∀ j, 1 ≤ j → j ≤ i → iter (stepF ws) j k ≠ k,
      src_rng0, ⟨(k : Nat), _, rfl, g1.trans e, Int.emod_eq_of_lt (by omega) (by omega), fun j h1 h2 => absurd h2 (by omega)⟩, fun _ _ _ _ => True.intro, ?_, ?_⟩
    · rintro i _ H3 H4 hi ⟨z, y, rfl, g3, hz, hno⟩ e3
      refine ⟨_, rfl, _, rfl, _, _, rfl, ws, z, h.sm (g3.trans e3), rfl, hne, hl, fun H5 g5 => ?_⟩
      have g := g3.trans (e3.trans g5)
      have hz2 := led_step hne hz
      refine ⟨_, rfl, .inl ⟨_, rfl, _, rfl, _, _, rfl, rfl, (by show (0 : Int) < _; omega), _, rfl, rfl, _, rfl, ?_⟩⟩
      dsimp only
      have hd : decide (V.int (ledM ws z % (ws.length : Int)) = V.int ((k : Nat) : Int)) = decide (iter (stepF ws) (i + 1) k = k) := by
        rw [hz2, vint_eq]
        show decide (((iter (stepF ws) (i + 1) k : Nat) : Int) = (k : Int)) = _
        exact decide_eq_decide.mpr (by omega)
      refine iteB (fun hc => ?_) (fun hc => ?_) <;> rw [hd] at hc
      · have hper : iter (stepF ws) (i + 1) k = k := of_decide_eq_true hc
        have e1 : firstM ws = k := first_of hk (perB_iff.mpr ⟨i + 1, by omega, by omega, hper⟩) hn
        refine ⟨_, rfl, _, rfl, _, _, rfl, rfl, _, rfl, _, rfl, _, _, rfl, rfl, _, rfl, _, _, rfl, rfl, ⟨by omega, by omega⟩, (by show 3 ≤ sizeLine; decide), fun p hp => ?_⟩
        refine q _ _ (g.trans (same_new hp _)) ⟨p, i + 1, (ledM ws z - (k : Int)) / (ws.length : Int), rfl, ?_, by omega, by omega, ?_⟩
        · rw [upd_same, e1]
          rfl
        · rw [e1]
          exact hper
      · have hc : iter (stepF ws) (i + 1) k ≠ k := of_decide_eq_false hc
        refine ⟨_, _, rfl, g, hz2, fun j h1 h2 => ?_⟩
        by_cases hj : j ≤ i
        · exact hno j h1 hj
        · have : j = i + 1 := by omega
          rw [this]
          exact hc
    · rintro _ H3 ⟨z, y, rfl, g3, hz, hno⟩
      refine ⟨_, _, _, rfl, g3, fun j hj => ?_⟩
      by_cases hjk : j < k
      · exact hn j hjk
      · have : j = k := by omega
        subst this
        cases hpb : perB (stepF ws) ws.length j with
        | false => rfl
        | true =>
          obtain ⟨b, h1, h2, h3⟩ := perB_iff.mp hpb
          exact absurd h3 (hno b h1 h2)
  · rintro _ H1 ⟨x, y, z, rfl, g1, hn⟩
    obtain ⟨p, hp, hper⟩ := per_some hf hpos
    rw [hn p hp] at hper
    cases hper

def sp_orbit_L : Sp := fun vs H Q _ => ∃ v1, vs = [v1] ∧ ∃ (ws : List Int), TI H v1 ws ∧ ws ≠ [] ∧ ws.length < 64 ∧
  ∀ v H' ns, Same H H' → TI H' v ns → (∀ x : Nat, (x : Int) ∈ ns ↔ ∃ i, iter (stepF ws) i (firstM ws) = x) → ns.length < 64 → Q v H'
abbrev N_orbit_L : List Str := ["_law_disk_here", "_law_k", "_law_beats_so", "_law_rounds_so", "_law_found", "_law_z", "_law_lap"]
abbrev s_orbit_L : Stmt := topS 48
theorem sc_orbit_L : FnScope N_orbit_L ["_law_disk_here"] (defScope s_orbit_L) := ⟨rfl, rfl, rfl, by decide +kernel, rfl, by decide +kernel, by decide +kernel⟩
theorem ok_orbit_L {P : Program} {w : World} {K : PySem.W.Frag} {mg : Str → Option Value} {base : Heap} (Tt : Tx K mg "_law_orbit" s_orbit_L ["_law_disk_here"]) (Bt : Bi mg) (F_back_L : Fd P w K mg base "_law_back" 1 2 sp_back_L) (F_led_L : Fd P w K mg base "_law_led" 2 1 sp_led_L) :
    Fd P w K mg base "_law_orbit" 1 3 sp_orbit_L := by
  refine Tt.ok sc_orbit_L (fun vs H Q E h => ?_) (fun f cdv A outer s H vs Q E hr h => ?_)
  · obtain ⟨_, rfl, _⟩ := h
    rfl
  obtain ⟨v1, rfl, ws, h, hne, hl, q⟩ := h
  refine ⟨_, pss_cons (ps_asg (pe_fn F_back_L hr (by decide) rfl (pa_cons (pv 0) (pa_nil))) (k_tg K 3 rfl (pgs_cons (pg_name (i := 1) sc_orbit_L.nd rfl (Or.inl rfl)) (pgs_cons (pg_name (i := 2) sc_orbit_L.nd rfl (Or.inl rfl)) (pgs_cons (pg_name (i := 3) sc_orbit_L.nd rfl (Or.inl rfl)) (pgs_nil))))))
    (pss_cons (ps_par (by rfl) sc_orbit_L.nd (i := 4) (j := 5) rfl rfl (by decide) rfl rfl (pa_cons (pe_lst (pa_nil)) (pa_cons (pv 1) (pa_nil))) (by rfl))
    (pss_cons (ps_forS PassesOwn.never rfl (pi_range1 rfl Bt.range (pa_cons (pv 2) (pa_nil))) (pg_name (i := 6) sc_orbit_L.nd rfl (Or.inl rfl)) (pss_cons (ps_expr (k_bm K PySem.F.plainAttrs_list PySem.F.slot_list_append PySem.F.type_list_append mt_append (pv 4) (pa_cons (pe_op op_mod (e_int Bt (pv 5)) (e_len K Bt (pv 0))) (pa_nil))))
    (pss_one (ps_set (i := 5) sc_orbit_L.nd rfl (Or.inl rfl) (pe_fn F_led_L hr (by decide) rfl (pa_cons (pv 0) (pa_cons (pv 5) (pa_nil))))))))
    (pss_one (ps_ret (e_tuple K Bt (e_sortI K Bt (pv 4))))))), ?_⟩
  obtain ⟨a, rfl, ha⟩ := id h
  have hpos := pos_of_ne hne
  obtain ⟨hk, _⟩ := first_in hne
  refine ⟨_, rfl, _, rfl, ws, h, hne, by omega, fun v H1 g1 ⟨t, b, r, e, ht, hb1, hb2, hper⟩ => ?_⟩
  subst e
  refine ⟨t, _, rfl, SqT.of ht, rfl, _, _, rfl, _, _, rfl, _, _, rfl, rfl, ?_⟩
  refine ⟨Nat.zero_le _, fun D hD => ⟨_, rfl, _, _, rfl, ?_⟩⟩
  have hDH := g1.free hD
  refine ⟨_, rfl, _, rfl, by omega, by omega, fun _ => True, b, _, fun i σ H' => ∃ (z : Int) (y : Option V), σ = [some (.ref a), some (.int (firstM ws : Nat)), some (.int (b : Nat)), some (.int r), some (.ref D), some (.int z), y] ∧ Same H H' ∧ z % (ws.length : Int) = (iter (stepF ws) i (firstM ws) : Nat) ∧ H' D = some (.lst ((ofN (orb (stepF ws) (firstM ws) i)).map V.int)),
    src_rng0, ⟨(firstM ws : Nat), _, rfl, g1.trans (same_new hD _), Int.emod_eq_of_lt (by omega) (by omega), upd_same⟩, fun _ _ _ _ => True.intro, ?_, ?_⟩
  · rintro i _ H2 H3 hi ⟨z, y, rfl, g2, hz, hL⟩ e
    have ha3 := e _ _ (g2 _ _ ha)
    refine ⟨_, rfl, ty_lst (e _ _ hL), _, rfl, .inl ⟨_, rfl, _, rfl, a, _, _, rfl, .inr (SqT.of ha3), len_int, _, _, rfl, rfl, (by show (0 : Int) < _; omega), D, _, _, rfl, rfl, e _ _ hL, ?_, ?_⟩⟩
    · rw [List.length_map, ofN_len, orb_length, sizeLine_eq]
      omega
    dsimp only
    have g3 : Same H (upd H3 D (.lst (((ofN (orb (stepF ws) (firstM ws) i)).map V.int) ++ [V.int (z % (ws.length : Int))]))) := same_mut (g2.trans e) hDH _
    refine ⟨_, rfl, _, rfl, _, _, rfl, ws, z, h.sm g3, rfl, hne, by omega, fun H5 g5 => ?_⟩
    refine ⟨_, _, rfl, g3.trans g5, led_step hne hz, g5 _ _ ?_⟩
    rw [upd_same, hz, orb_succ]
    unfold ofN
    rw [List.map_append, List.map_append]
    rfl
  · rintro _ H2 ⟨z, y, rfl, g2, hz, hL⟩
    refine ⟨_, rfl, D, _, rfl, SqL.of hL, by rw [ofN_len, orb_length]; omega, fun ns p hp _ hp0 => ?_⟩
    refine ⟨p, _, rfl, .inl ⟨SqL.of upd_same, fun l hl => ?_⟩⟩
    refine q _ _ ns (g2.trans ((same_new hp0 _).trans (same_new hl _))) ⟨l, rfl, upd_same⟩ (fun x => ?_) ?_
    · rw [hp.mem_iff, mem_ofN]
      exact orb_mem (orb_per hb1 hper) x
    · rw [hp.length_eq, ofN_len, orb_length]
      omega
end Rw

namespace Rw
open PySem PySem.Spec PyProof.Rows L2

/-! ### tuples whose object is known, and forgotten later: for a method of a tuple -/
def tTupF (t : TA) : TE := fun σ H Q => t σ H fun xs H1 => xs.length ≤ sizeLine ∧ ∀ p o, H1 p = none → o.dict = none → Q (.ref p) (upd H1 p (.frz o (.tup xs)))
def tBMF (r : V → List V → Hp → VK → Prop) (to : TE) (t : TA) : TE := fun σ H Q => to σ H fun x H1 => (∃ p o xs, x = .ref p ∧ H1 p = some (.frz o (.tup xs)) ∧ o.dict = none) ∧ t σ H1 fun xs H2 => r x xs H2 Q
/-- what was known of the new tuples is forgotten -/
def thaw (B H : Hp) : Hp := fun a => if (B a).isSome = true then H a else match H a with
  | some (.frz _ (.tup xs)) => some (.tup xs)
  | u => u
def tThaw (B : Hp) (te : TE) : TE := fun σ H Q => te σ H fun v H1 => Q v (thaw B H1)
theorem thaw_base {B H : Hp} {a : Addr} (h : (B a).isSome = true) : thaw B H a = H a := by
  unfold thaw
  rw [if_pos h]
theorem thaw_cases (B H : Hp) (a : Addr) : thaw B H a = H a ∨ ∃ o xs, H a = some (.frz o (.tup xs)) ∧ thaw B H a = some (.tup xs) := by
  unfold thaw
  by_cases h : (B a).isSome = true
  · rw [if_pos h]
    exact .inl rfl
  · rw [if_neg h]
    split
    · rename_i o xs e
      exact .inr ⟨o, xs, e, rfl⟩
    · exact .inl rfl
theorem thaw_none {B H : Hp} {a : Addr} (h : H a = none) : thaw B H a = none := by
  rcases thaw_cases B H a with e | ⟨o, xs, e, _⟩
  · rw [e, h]
  · rw [h] at e; cases e
theorem thaw_keep {B H : Hp} {a : Addr} {u : HO} (h : H a = some u) (hu : ∀ o xs, u ≠ .frz o (.tup xs)) : thaw B H a = some u := by
  rcases thaw_cases B H a with e | ⟨o, xs, e, _⟩
  · rw [e, h]
  · rw [h] at e
    exact absurd (Option.some.inj e) (hu o xs)
theorem thaw_new {B H : Hp} {a : Addr} {o : Obj} {xs : List V} (hb : B a = none) (h : H a = some (.frz o (.tup xs))) : thaw B H a = some (.tup xs) := by
  unfold thaw
  rw [hb, if_neg (by simp), h]
theorem thaw_same {B H : Hp} (h : Same B H) : Same B (thaw B H) := fun a o e => by
  rw [thaw_base (by rw [e]; rfl)]
  exact h a o e
theorem Inv.thaw {X : Cx} {pins : List (Addr × Obj)} {σ : List (Option V)} {H : Hp} {s : Shared} (I : Inv X pins σ H s) : Inv X pins σ (thaw X.H_0 H) s where
  ok := I.ok
  os := I.os
  bare := I.bare
  base := ⟨I.base.keep, I.base.slot, fun b o e n hx => thaw_none (I.base.free b o e n hx), I.base.there, fun b xs e => by rw [thaw_base (by rw [e]; rfl)]; exact I.base.tups b xs e,
    fun b o u e => by rw [thaw_base (by rw [e]; rfl)]; exact I.base.frzs b o u e, fun b ps e => by rw [thaw_base (by rw [e]; rfl)]; exact I.base.tbls b ps e⟩
  loc := I.loc
  cell := I.cell
  free := thaw_none I.free
  freeC := fun x c e => thaw_none (I.freeC x c e)
  pin := fun p hp => let ⟨e, n, ne, nf, d⟩ := I.pin p hp; ⟨e, thaw_none n, ne, nf, d⟩
  hok := fun a u e => by
    have ho : ∀ b c, H b = some (.own c) → Rw.thaw X.H_0 H b = some (.own c) := fun b c q => thaw_keep q fun o xs z => by cases z
    have ht : ∀ b xs, H b = some (.tup xs) → Rw.thaw X.H_0 H b = some (.tup xs) := fun b xs q => thaw_keep q fun o xs z => by cases z
    rcases thaw_cases X.H_0 H a with z | ⟨o, xs, z, z2⟩
    · rw [z] at e
      exact (I.hok a u e).stay (fun _ _ _ q => q) (fun b q => ho b a q) ht
    · rw [z2] at e
      cases e
      exact (I.hok a _ z).2.stay (fun _ _ _ q => q) (fun b q => ho b a q) ht
  len := I.len
section
variable {X : Cx} {e o : Expr} {es : List Expr} {te to : TE} {t : TA} {pos apos cpos : Pos} {name : Str}
theorem pe_thaw (B : Hp) (he : PE X e te) (hB : X.H_0 = B := by rfl) : PE X e (tThaw B te) := by
  subst hB
  refine ⟨fun pins s σ H Q I h => ?_⟩
  exact thn (he.run pins s σ H _ I h) fun v s1 ⟨x, H1, I1, r1, q1⟩ => ⟨x, _, Inv.thaw I1, r1, q1⟩
theorem pe_tupF {x1} (h : PA X es t) : PE X (.Tuple es x1 pos) (tTupF t) := by
  refine ⟨fun pins s σ H Q I hq => ?_⟩
  refine wpAny_Tuple_spliced (thn (h.run pos pins s σ H _ I hq) fun us s1 ⟨xs, H1, I1, r, z, q⟩ => ⟨by rw [← r.length]; exact z, ?_⟩)
  have hf : H1 s1.heap.objs.size = none := I1.hok.fresh (Nat.le_refl _)
  refine ⟨.ref s1.heap.objs.size, upd H1 s1.heap.objs.size (.frz { cls := Value.type "tuple", data := Data.seq us.toArray } (.tup xs)), I1.laid (t' := s1.toks) (fun b u e => Heap.get?_push_of_some _ e) (Nat.le_refl _) ?_, rfl, q _ _ hf ?_⟩
  · exact ⟨Heap.get?_push_size _ rfl, z, us, r, ⟨_, Heap.get?_push_size _ rfl, rfl, _, rfl⟩⟩
  · rfl
theorem k_bmF {id : String} {r : V → List V → Hp → VK → Prop} (slot : Slot "tuple" name id) (hty : typeOf (.builtin id) = pure (.type "method_descriptor")) (hm : MtR X id r) (ho : PE X o to) (ha : PA X (e :: es) t)
    (hbase : attributeBase o name X.env (eval o X.env) = eval o X.env := by rfl)
    (hfew : ((backTo cpos (starEach (e :: es) X.env)).all (fun x => !x.1) && (backToKw cpos (keywordEach [] X.env)).all (fun x => x.1.isSome)
      && decide ((e :: es).length + ([] : List Keyword).length + (if ([] : List Keyword).isEmpty then 0 else 1) < 30)) = true := by rfl)
    (hline : (apos.endLine == cpos.line) = true := by rfl) (hs : starEach (e :: es) X.env = (false, eval e X.env) :: starEach es X.env := by rfl) (hplain : (backTo cpos (starEach es X.env)).any (·.1) = false := by rfl) :
    PE X (.Call (.Attribute o name apos) (e :: es) [] cpos) (tBMF r to t) := by
  refine ⟨fun pins s σ H Q I h => ?_⟩
  refine wpAny_Call_method_late hbase hfew hline rfl (thn (ho.run pins s σ H _ I h) fun v s1 ⟨x, H1, I1, r1, ⟨p, ob, xs, ex, hp, hd⟩, q1⟩ => ?_)
  subst ex
  obtain ⟨e1, z1, its, rv, ob2, e2, c2, _⟩ := I1.hok p _ hp
  cases r1
  refine ⟨"tuple", id, PySem.F.plainAttrs_tuple, slot, hty, ⟨ob2, e2, c2⟩, fun a ea => ?_, ?_⟩
  · cases ea
    exact ⟨ob, e1, hd⟩
  have hA := ha.run cpos pins s1 σ H1 _ I1 q1
  rw [hs] at hA ⊢
  refine Calls.callWith_builtin (by show (false || (backTo cpos (starEach es X.env)).any (·.1)) = false; rw [hplain] <;> rfl) (Calls.evalArgs_plain ?_)
  exact thn hA fun us s2 ⟨vs, H2, I2, r2, q2⟩ => hm pins s2 σ H2 (.ref p) vs _ us Q I2 rfl r2 q2
end
/-- such a tuple of ints, made since B -/
def TF (B : Hp) : Rp (List Int) := fun H v ns => ∃ a o, v = .ref a ∧ B a = none ∧ H a = some (.frz o (.tup (ns.map V.int))) ∧ o.dict = none
theorem sm_TF (B : Hp) : SM (TF B) := fun _ _ _ _ e ⟨a, o, h1, h2, h3, h4⟩ => ⟨a, o, h1, h2, e _ _ h3, h4⟩
theorem TF.put {B H : Hp} {v : V} {ns : List Int} {L : Addr} {xs : List V} {u : HO} (h : TF B H v ns) (hL : H L = some (.lst xs)) : TF B (upd H L u) v ns := by
  obtain ⟨a, o, h1, h2, h3, h4⟩ := h
  exact ⟨a, o, h1, h2, by rw [upd_ne (ne_of h3 hL (by intro z; cases z))]; exact h3, h4⟩
theorem TF.sq {K : PySem.W.Frag} {B H : Hp} {a : Addr} {ns : List Int} (h : TF B H (.ref a) ns) : SqT K H a (ns.map V.int) := by
  obtain ⟨b, o, e, h2, h3, h4⟩ := h
  cases e
  exact .inl (.inr ⟨o, h3⟩)
theorem TF.thaw {B H : Hp} {v : V} {ns : List Int} (h : TF B H v ns) : TI (thaw B H) v ns := by
  obtain ⟨a, o, h1, h2, h3, h4⟩ := h
  exact ⟨a, h1, thaw_new h2 h3⟩
end Rw

namespace Rw
open PySem PySem.Spec PyProof.Rows L2 Mth

/-! ### how many rows there are -/
theorem fold_take {α β : Type} (f : β → α → β) (z : β) (d : α) {ns : List α} {i : Nat} (h : i < ns.length) : (ns.take (i + 1)).foldl f z = f ((ns.take i).foldl f z) (ns.getD i d) := by
  rw [List.take_succ, List.getElem?_eq_getElem h, List.foldl_append, getD_of (List.getElem?_eq_getElem h)]
  rfl
theorem getD_mem {ns : List Int} {i : Nat} (h : i < ns.length) : ns.getD i 0 ∈ ns := by
  rw [getD_of (List.getElem?_eq_getElem h)]
  exact List.getElem_mem h
def factI (n : Int) : Int := ((Builtin.Math.factorialNat n.toNat : Nat) : Int)
theorem fact_all : (List.range 200).all (fun n => decide (0 < Builtin.Math.factorialNat n) && decide (Builtin.Math.factorialNat n < 2 ^ 8000)) = true := by decide +kernel
theorem fact_ok {n : Int} (h : n < 200) : 0 < factI n ∧ (factI n).natAbs < 2 ^ 8000 := by
  have z := List.all_eq_true.mp fact_all n.toNat (List.mem_range.mpr (by omega))
  rw [Bool.and_eq_true] at z
  have z1 := of_decide_eq_true z.1
  have z2 := of_decide_eq_true z.2
  refine ⟨?_, ?_⟩
  · unfold factI
    exact Int.natCast_pos.mpr z1
  · unfold factI
    rw [Int.natAbs_natCast]
    exact z2
theorem fact_div {i n : Int} (h : n < 200) : CDivW i (factI n) := wide_div (fact_ok h).1 (fact_ok h).2 (by decide) (by decide)
def allF (acc n : Int) : Int := acc / factI n
def allM (ns : List Int) : Int := ns.foldl allF (factI ns.sum)
def okAll (ns : List Int) : Bool := decide (ns.length < 1000) && ns.all (fun n => decide (0 ≤ n) && decide (n < 200)) && decide (0 ≤ ns.sum) && decide (ns.sum < 200)
theorem okAll_of {ns : List Int} (h : okAll ns = true) : ns.length < 1000 ∧ (∀ n ∈ ns, 0 ≤ n ∧ n < 200) ∧ 0 ≤ ns.sum ∧ ns.sum < 200 := by
  unfold okAll at h
  rw [Bool.and_eq_true, Bool.and_eq_true, Bool.and_eq_true, List.all_eq_true] at h
  refine ⟨of_decide_eq_true h.1.1.1, fun n hn => ?_, of_decide_eq_true h.1.2, of_decide_eq_true h.2⟩
  have z := h.1.1.2 n hn
  rw [Bool.and_eq_true] at z
  exact ⟨of_decide_eq_true z.1, of_decide_eq_true z.2⟩
theorem v_nat {n : Int} (h : 0 ≤ n) : [V.int n] = [V.int ((n.toNat : Nat) : Int)] := by rw [Int.toNat_of_nonneg h]
def sp_all_rows : Sp := fun vs H Q _ => ∃ v1, vs = [v1] ∧ ∃ (ns : List Int), TI H v1 ns ∧ okAll ns = true ∧ ∀ H', Same H H' → Q (.int (allM ns)) H'
abbrev N_all_rows : List Str := ["numbers", "found", "own"]
abbrev s_all_rows : Stmt := topS 31
theorem sc_all_rows : FnScope N_all_rows ["numbers"] (defScope s_all_rows) := ⟨rfl, rfl, rfl, by decide +kernel, rfl, by decide +kernel, by decide +kernel⟩
theorem ok_all_rows {P : Program} {w : World} {K : PySem.W.Frag} {mg : Str → Option Value} {base : Heap} (Tt : Tx K mg "all_rows" s_all_rows ["numbers"]) (Bt : Bi mg) :
    Fd P w K mg base "all_rows" 1 1 sp_all_rows := by
  refine Tt.ok sc_all_rows (fun vs H Q E h => ?_) (fun f cdv A outer s H vs Q E hr h => ?_)
  · obtain ⟨_, rfl, _⟩ := h
    rfl
  obtain ⟨v1, rfl, ns, h, hk, q⟩ := h
  refine ⟨_, pss_cons (ps_set (i := 1) sc_all_rows.nd rfl (Or.inl rfl) (e_fact Bt (e_sumT K Bt (pv 0))))
    (pss_cons (ps_forS PassesOwn.never rfl (k_tup K (pv 0)) (pg_name (i := 2) sc_all_rows.nd rfl (Or.inl rfl)) (pss_one (ps_set (i := 1) sc_all_rows.nd rfl (Or.inl rfl) (pe_op op_fdivW (pv 1) (e_fact Bt (pv 2))))))
    (pss_one (ps_ret (pv 1)))), ?_⟩
  obtain ⟨a, rfl, ha⟩ := id h
  obtain ⟨hl, hn, hs0, hs⟩ := okAll_of hk
  refine ⟨_, rfl, a, ns, rfl, SqT.of ha, ns.sum.toNat, v_nat hs0, by omega, ?_⟩
  refine ⟨_, rfl, a, rfl, ⟨_, SqT.of ha⟩, _, _, _, fun i σ H' => ∃ z, σ = [some (.ref a), some (.int ((ns.take i).foldl allF (factI ns.sum))), z] ∧ Same H H', src_tupI, ⟨none, rfl, Same.refl _⟩, fun i σ H' ⟨z, _, g⟩ => SqT.of (g _ _ ha), ?_, ?_⟩
  · rintro i _ H1 H2 hi ⟨z, rfl, g1⟩ e
    obtain ⟨n0, n1⟩ := hn _ (getD_mem hi)
    refine ⟨_, rfl, _, rfl, _, v_nat n0, by omega, _, _, rfl, rfl, fact_div n1, some (.int (ns.getD i 0)), ?_, g1.trans e⟩
    rw [fold_take allF _ 0 hi]
    rfl
  · rintro _ H1 ⟨z, rfl, g1⟩
    rw [List.take_length]
    exact ⟨_, rfl, q _ g1⟩

def gcdI (a b : Int) : Int := ((Nat.gcd a.natAbs b.natAbs : Nat) : Int)
def shareM (ns : List Int) : Int := ns.foldl gcdI 0
def partM (ns : List Int) (s : Nat) : List Int := ns.map fun n => n / (shareM ns / gcdI (s : Int) (shareM ns))
def manyAcc (ns : List Int) (i : Nat) : Int := (List.range i).foldl (fun acc s => acc + allM (partM ns s)) 0
def manyM (ns : List Int) : Int := manyAcc ns (shareM ns).toNat / ns.sum
def okMany (ns : List Int) : Bool := decide (ns ≠ []) && decide (ns.length < 1000) && ns.all (fun n => decide (1 ≤ n)) && decide (0 < shareM ns) && decide (shareM ns < 1000) && decide (0 < ns.sum) && decide (ns.sum < 1000) &&
  (List.range (shareM ns).toNat).all fun s => decide (0 < gcdI (s : Int) (shareM ns)) && decide (gcdI (s : Int) (shareM ns) < 1000) && decide (0 < shareM ns / gcdI (s : Int) (shareM ns)) && decide (shareM ns / gcdI (s : Int) (shareM ns) < 1000) && okAll (partM ns s)
structure OkMany (ns : List Int) : Prop where
  ne : ns ≠ []
  len : ns.length < 1000
  one : ∀ n ∈ ns, 1 ≤ n
  s0 : 0 < shareM ns
  s1 : shareM ns < 1000
  t0 : 0 < ns.sum
  t1 : ns.sum < 1000
  st : ∀ s, s < (shareM ns).toNat → 0 < gcdI (s : Int) (shareM ns) ∧ gcdI (s : Int) (shareM ns) < 1000 ∧ 0 < shareM ns / gcdI (s : Int) (shareM ns) ∧ shareM ns / gcdI (s : Int) (shareM ns) < 1000 ∧ okAll (partM ns s) = true
theorem okMany_of {ns : List Int} (h : okMany ns = true) : OkMany ns := by
  unfold okMany at h
  simp only [Bool.and_eq_true, List.all_eq_true, decide_eq_true_eq, List.mem_range] at h
  obtain ⟨⟨⟨⟨⟨⟨⟨a, b⟩, c⟩, d⟩, e⟩, f⟩, g⟩, i⟩ := h
  exact ⟨a, b, c, d, e, f, g, fun s hs => let ⟨⟨⟨⟨w, x⟩, y⟩, z⟩, u⟩ := i s hs; ⟨w, x, y, z, u⟩⟩
def sp_many_rows : Sp := fun vs H Q _ => ∃ v1, vs = [v1] ∧ ∃ d ns, Dr H d v1 ∧ okD d 7 = true ∧ tupledD d = tI ns ∧ okMany ns = true ∧ ∀ H', Same H H' → Q (.int (manyM ns)) H'
abbrev N_many_rows : List Str := ["numbers", "own", "share", "found", "one", "step", "like"]
abbrev s_many_rows : Stmt := topS 32
theorem sc_many_rows : FnScope N_many_rows ["numbers"] (defScope s_many_rows) := ⟨rfl, rfl, rfl, by decide +kernel, rfl, by decide +kernel, by decide +kernel⟩
theorem ok_many_rows {P : Program} {w : World} {K : PySem.W.Frag} {mg : Str → Option Value} {base : Heap} (Tt : Tx K mg "many_rows" s_many_rows ["numbers"]) (Bt : Bi mg) (F_sure_numbers : Fd P w K mg base "sure_numbers" 2 9 sp_sure_numbers) (F_all_rows : Fd P w K mg base "all_rows" 1 1 sp_all_rows) :
    Fd P w K mg base "many_rows" 1 10 sp_many_rows ∧ FdK P w K mg base "many_rows" ["numbers"] 10 sp_many_rows := by
  refine Tt.ok2 sc_many_rows (fun vs H Q E h => ?_) (fun f cdv A outer s H vs Q E hr h => ?_)
  · obtain ⟨_, rfl, _⟩ := h
    rfl
  obtain ⟨v1, rfl, d, ns, h, ho, e, hk, q⟩ := h
  refine ⟨_, pss_cons (ps_set (i := 1) sc_many_rows.nd rfl (Or.inl rfl) (pe_fn F_sure_numbers hr (by decide) rfl (pa_cons (pv 0) (pa_cons (pe_int) (pa_nil)))))
    (pss_cons (ps_asg (pe_tup (pa_cons (pe_int) (pa_cons (pe_int) (pa_nil)))) (k_tg K 2 rfl (pgs_cons (pg_name (i := 2) sc_many_rows.nd rfl (Or.inr rfl)) (pgs_cons (pg_name (i := 3) sc_many_rows.nd rfl (Or.inl rfl)) (pgs_nil)))))
    (pss_cons (ps_forS PassesOwn.never rfl (k_tup K (pv 1)) (pg_name (i := 4) sc_many_rows.nd rfl (Or.inl rfl)) (pss_one (ps_set (i := 2) sc_many_rows.nd rfl (Or.inr rfl) (e_gcd Bt (pv 2) (pv 4)))))
    (pss_cons (ps_forS PassesOwn.never rfl (pi_range1 rfl Bt.range (pa_cons (pv 2) (pa_nil))) (pg_name (i := 5) sc_many_rows.nd rfl (Or.inl rfl)) (pss_cons (ps_set (i := 6) sc_many_rows.nd rfl (Or.inr rfl) (e_gcd Bt (pv 5) (pv 2)))
    (pss_one (ps_set (i := 3) sc_many_rows.nd rfl (Or.inl rfl) (pe_op op_add (pv 3) (pe_fn F_all_rows hr (by decide) rfl (pa_cons (e_tuple K Bt (pe_lcS (own := [("one", 4)]) rfl sc_many_rows.nd (k_tup K (pv 1)) (blkOk_by (N := N_many_rows) (sc := defScope s_many_rows) (by decide +kernel)) (fun _ _ _ _ _ => pg_name (i := 4) sc_many_rows.nd rfl (Or.inl rfl)) (fun _ _ _ _ _ => pts_nil) (fun _ _ _ _ _ => pe_op op_fdiv (pv 4) (pe_op op_fdiv (pv 2) (pv 6))))) (pa_nil))))))))
    (pss_one (ps_ret (pe_op op_fdiv (pv 3) (e_sumT K Bt (pv 1)))))))), ?_⟩
  have M := okMany_of hk
  refine ⟨_, rfl, _, _, rfl, d, ns, h, ho, e, M.ne, M.len, .inr ⟨1, rfl, M.one⟩, fun v H1 g1 t => ?_⟩
  obtain ⟨a, rfl, ha⟩ := id t
  refine ⟨(by show 2 ≤ sizeLine; decide), fun p hp => ?_⟩
  have g2 := g1.trans (same_new hp (.tup [.int 0, .int 0]))
  have ha2 := same_new hp (.tup [.int 0, .int 0]) _ _ ha
  refine ⟨p, _, rfl, SqT.of upd_same, rfl, _, _, rfl, _, _, rfl, rfl, ?_⟩
  refine ⟨_, rfl, a, rfl, ⟨_, SqT.of ha2⟩, _, _, _, fun i σ H' => ∃ z, σ = [some v1, some (.ref a), some (.int ((ns.take i).foldl gcdI 0)), some (.int 0), z, none, none] ∧ Same H H' ∧ H' a = some (.tup (ns.map V.int)), src_tupI, ⟨none, rfl, g2, ha2⟩, fun i σ H' ⟨z, _, _, g⟩ => SqT.of g, ?_, ?_⟩
  · rintro i _ H2 H3 hi ⟨z, rfl, g3, ha3⟩ e3
    refine ⟨_, rfl, _, rfl, _, _, rfl, some (.int (ns.getD i 0)), ?_, g3.trans e3, e3 _ _ ha3⟩
    rw [fold_take gcdI _ 0 hi]
    rfl
  rintro _ H2 ⟨z, rfl, g3, ha3⟩
  rw [List.take_length]
  have s0 := M.s0
  have s1 := M.s1
  have es : ns.foldl gcdI 0 = (((shareM ns).toNat : Nat) : Int) := (Int.toNat_of_nonneg (Int.le_of_lt s0)).symm
  refine ⟨_, rfl, _, rfl, by rw [es]; omega, by rw [es]; omega, fun _ => True, (shareM ns).toNat, _, fun i σ H' => ∃ x y z, σ = [some v1, some (.ref a), some (.int (shareM ns)), some (.int (manyAcc ns i)), x, y, z] ∧ Same H H' ∧ H' a = some (.tup (ns.map V.int)), src_rng0 (n := (shareM ns).toNat), ⟨z, none, none, rfl, g3, ha3⟩, fun _ _ _ _ => True.intro, ?_, ?_⟩
  · rintro i _ H3 H4 hi ⟨x, y, z, rfl, g4, ha4⟩ e4
    obtain ⟨c1, c2, c3, c4, c5⟩ := M.st i hi
    have g5 := g4.trans e4
    have ha5 := e4 _ _ ha4
    refine ⟨_, rfl, _, rfl, _, _, rfl, ?_⟩
    refine ⟨_, rfl, _, rfl, a, rfl, ⟨_, SqT.of ha5⟩, Int, rI, _, _, _, fun j => some (ns.getD j 0 / (shareM ns / gcdI (i : Int) (shareM ns))), src_tupI, by have := M.len; omega, fun H' g => SqT.of (g _ _ ha5), fun j hj => rfl,
      fun j hj H' g Q' q' => q' H' (Same.refl _), .inr ⟨km_I, fun j b hj hb H' g Q' q' => ?_⟩, fun D ys H5 hD g6 hY _ hp => ?_⟩
    · refine ⟨_, rfl, _, rfl, _, rfl, _, _, rfl, rfl, ⟨c1, ?_⟩, _, _, rfl, rfl, ⟨c3, ?_⟩, q' _ _ (Same.refl _) (congrArg V.int (Option.some.inj hb))⟩
      · exact Int.lt_trans c2 (by decide)
      · exact Int.lt_trans c4 (by decide)
    · rw [fm_all ns 0 (fun n => some (n / (shareM ns / gcdI (i : Int) (shareM ns)))), fm_some] at hp
      refine ⟨D, ys, rfl, .inl ⟨SqL.of hY, fun l hl => ?_⟩⟩
      have g7 : Same H4 (upd H5 l (.tup ys)) := g6.trans (same_new hl _)
      refine ⟨_, rfl, partM ns i, ⟨l, rfl, by rw [upd_same, paired_I hp]; rfl⟩, c5, fun H6 g8 => ?_⟩
      refine ⟨_, _, rfl, rfl, x, some (.int (i : Nat)), some (.int (gcdI (i : Int) (shareM ns))), ?_, g5.trans (g7.trans g8), g8 _ _ (g7 _ _ ha5)⟩
      unfold manyAcc
      rw [List.range_succ, List.foldl_append]
      rfl
  · rintro _ H3 ⟨x, y, z, rfl, g4, ha4⟩
    refine ⟨_, rfl, _, rfl, a, ns, rfl, SqT.of ha4, _, _, rfl, rfl, ⟨M.t0, Int.lt_trans M.t1 (by decide)⟩, ?_⟩
    exact q _ g4
end Rw

namespace Rw
open PySem PySem.Spec PyProof.Rows L2 Mth

/-! ### == of tuples of ints -/
theorem eqvAll_ints : ∀ ns ms : List Int, PyData.eqvAll (ns.map PyData.int) (ms.map PyData.int) = decide (ns = ms)
  | [], [] => by simp [PyData.eqvAll]
  | [], m :: ms => by simp [PyData.eqvAll]
  | n :: ns, [] => by simp [PyData.eqvAll]
  | n :: ns, m :: ms => by
    rw [List.map_cons, List.map_cons, PyData.eqvAll, eqv_int, eqvAll_ints ns ms]
    by_cases h : n = m
    · by_cases h2 : ns = ms
      · simp [h, h2]
      · simp [h, h2]
    · simp [h]
theorem eqv_tI (ns ms : List Int) : PyData.eqv (tI ns) (tI ms) = decide (ns = ms) := by
  unfold tI
  simp only [PyData.eqv]
  exact eqvAll_ints ns ms
theorem canLay_ints : ∀ ns : List Int, PyData.canLayAll0 (ns.map PyData.int) = true
  | [] => by simp [PyData.canLayAll0]
  | n :: ns => by
    rw [List.map_cons]
    simp only [PyData.canLayAll0, PyData.canLay0, canLay_ints ns, Bool.and_self]
theorem shaped_tI (ns : List Int) : SeqAt.shaped (tI ns) = true := by
  unfold SeqAt.shaped
  have h1 := depth_tI ns
  have h2 : (tI ns).canLay0 = true := by
    unfold tI
    simp only [PyData.canLay0, canLay_ints]
  rw [h2, decide_eq_true (by omega)]
  rfl
theorem dpAll_ints {K : PySem.W.Frag} {H : Hp} : ∀ ns : List Int, DpAll K H (ns.map V.int) (ns.map PyData.int)
  | [] => .nil
  | n :: ns => .cons (.int n) (dpAll_ints ns)
theorem TI.dp {K : PySem.W.Frag} {H : Hp} {v : V} {ns : List Int} (h : TI H v ns) : Dp K H v (tI ns) := by
  obtain ⟨a, rfl, ha⟩ := h
  exact .tup (SqT.of ha) (dpAll_ints ns)
/-! ### rows, told by the numbers -/
def extM (ns own : List Int) : List (List Int) := (List.range ns.length).filterMap fun (k : Nat) => if decide (((own.count (k : Int) : Nat) : Int) < ns.getD k 0) = true then some (own ++ [(k : Int)]) else none
def levelM (ns : List Int) : Nat → List (List Int)
  | 0 => [[]]
  | i + 1 => (levelM ns i).flatMap (extM ns)
def rowsM (ns : List Int) : List (List Int) := (levelM ns ns.sum.toNat).filter fun own => decide (own = leastM own)
def okRows (ns : List Int) : Bool := decide (ns ≠ []) && okAll ns && ns.all (fun n => decide (1 ≤ n)) && decide (1 ≤ ns.sum) && decide (allM ns ≤ 600) && (List.range (ns.sum.toNat + 1)).all fun i => decide ((levelM ns i).length ≤ 1000)
structure OkRows (ns : List Int) : Prop where
  ne : ns ≠ []
  all : okAll ns = true
  one : ∀ n ∈ ns, 1 ≤ n
  sum : 1 ≤ ns.sum
  few : allM ns ≤ 600
  lev : ∀ i, i ≤ ns.sum.toNat → (levelM ns i).length ≤ 1000
theorem okRows_of {ns : List Int} (h : okRows ns = true) : OkRows ns := by
  unfold okRows at h
  simp only [Bool.and_eq_true, List.all_eq_true, decide_eq_true_eq, List.mem_range] at h
  obtain ⟨⟨⟨⟨⟨a, b⟩, c⟩, d⟩, e⟩, f⟩ := h
  exact ⟨a, b, c, d, e, fun i hi => f i (by omega)⟩
theorem ext_len {ns own x : List Int} (h : x ∈ extM ns own) : x.length = own.length + 1 := by
  obtain ⟨k, _, e⟩ := List.mem_filterMap.mp h
  rw [if_some e, List.length_append]
  rfl
theorem level_len (ns : List Int) : ∀ i, ∀ x ∈ levelM ns i, x.length = i
  | 0, x, h => by rw [List.mem_singleton.mp h]; rfl
  | i + 1, x, h => by
    obtain ⟨own, h1, h2⟩ := List.mem_flatMap.mp h
    rw [ext_len h2, level_len ns i own h1]
theorem flatMap_take {α β : Type} (f : α → List β) (d : α) {l : List α} {j : Nat} (h : j < l.length) : (l.take (j + 1)).flatMap f = (l.take j).flatMap f ++ f (l.getD j d) := by
  rw [List.take_succ, List.getElem?_eq_getElem h, List.flatMap_append, getD_of (List.getElem?_eq_getElem h)]
  simp
theorem flatMap_le {α β : Type} (f : α → List β) (l : List α) (j : Nat) : ((l.take j).flatMap f).length ≤ (l.flatMap f).length := by
  conv => rhs; rw [← List.take_append_drop j l, List.flatMap_append, List.length_append]
  exact Nat.le_add_right _ _
theorem pairedG {α : Type} {R : V → α → Prop} {vs : List V} {rs : List α} {d : α} {i : Nat} (h : Paired R vs rs) (hi : i < rs.length) : R (vs.getD i .non) (rs.getD i d) ∧ rs.getD i d ∈ rs := by
  have e : rs[i]? = some rs[i] := List.getElem?_eq_getElem hi
  obtain ⟨v, h1, h2⟩ := paired_at h e
  rw [getD_of e, getD_of h1]
  exact ⟨h2, List.getElem_mem hi⟩
theorem paired_appR {α : Type} {R : V → α → Prop} {xs zs : List V} {ys ws : List α} (h : Paired R xs ys) (h' : Paired R zs ws) : Paired R (xs ++ zs) (ys ++ ws) := paired_app h h'
def sp_rows_in : Sp := fun vs H Q _ => ∃ v1, vs = [v1] ∧ ∃ (ns : List Int), TI H v1 ns ∧ okRows ns = true ∧ ∀ v H', Same H H' → LL TI H' v (rowsM ns) → Q v H'
abbrev N_rows_in : List Str := ["numbers", "found", "_", "longer", "own", "letter", "many"]
abbrev s_rows_in : Stmt := topS 33
theorem sc_rows_in : FnScope N_rows_in ["numbers"] (defScope s_rows_in) := ⟨rfl, rfl, rfl, by decide +kernel, rfl, by decide +kernel, by decide +kernel⟩
theorem ok_rows_in {P : Program} {w : World} {K : PySem.W.Frag} {mg : Str → Option Value} {base : Heap} (Tt : Tx K mg "rows_in" s_rows_in ["numbers"]) (Bt : Bi mg) (F_all_rows : Fd P w K mg base "all_rows" 1 1 sp_all_rows) (F_least_in_turn : Fd P w K mg base "least_in_turn" 1 2 sp_least_in_turn) {tMANY : Tok} (hMANY : mg "MANY" = some (.int 600 tMANY)) :
    Fd P w K mg base "rows_in" 1 3 sp_rows_in := by
  refine Tt.ok sc_rows_in (fun vs H Q E h => ?_) (fun f cdv A outer s H vs Q E hr h => ?_)
  · obtain ⟨_, rfl, _⟩ := h
    rfl
  obtain ⟨v1, rfl, ns, h, hk, q⟩ := h
  refine ⟨_, pss_cons (ps_if (pt_cmpR op_gt (pe_fn F_all_rows hr (by decide) rfl (pa_cons (pv 0) (pa_nil))) (pe_glob rfl hMANY (show RelV (.int 600) (.int 600 tMANY) from ⟨_, rfl⟩)) (nomark _)) (pss_never) (pss_nil))
    (pss_cons (ps_set (i := 1) sc_rows_in.nd rfl (Or.inl rfl) (pe_lst (pa_cons (pe_tupF (pa_nil)) (pa_nil))))
    (pss_cons (ps_forS PassesOwn.never rfl (pi_range1 rfl Bt.range (pa_cons (e_sumT K Bt (pv 0)) (pa_nil))) (pg_name (i := 2) sc_rows_in.nd rfl (Or.inl rfl)) (pss_cons (ps_set (i := 3) sc_rows_in.nd rfl (Or.inl rfl) (pe_lst (pa_nil)))
    (pss_cons (ps_forS PassesOwn.never rfl (k_list K (pv 1)) (pg_name (i := 4) sc_rows_in.nd rfl (Or.inr rfl)) (pss_one (ps_expr (k_bm K PySem.F.plainAttrs_list PySem.F.slot_list_extend PySem.F.type_list_extend mt_extend (pv 3) (pa_cons (pe_lcS (own := [("letter", 5), ("many", 6)]) rfl sc_rows_in.nd (k_enum K Bt (pv 0)) (blkOk_by (N := N_rows_in) (sc := defScope s_rows_in) (by decide +kernel)) (fun _ _ _ _ _ => k_tg K 2 rfl (pgs_cons (pg_name (i := 5) sc_rows_in.nd rfl (Or.inl rfl)) (pgs_cons (pg_name (i := 6) sc_rows_in.nd rfl (Or.inl rfl)) (pgs_nil)))) (fun _ _ _ _ _ => pts_one (pt_cmpR op_lt (k_bmF PySem.F.slot_tuple_count PySem.F.type_tuple_count (k_cnt K) (pv 4) (pa_cons (pv 5) (pa_nil))) (pv 6) (nomark _))) (fun _ _ _ _ _ => pe_tupF (k_star K (pv 4) (pa_cons (pv 5) (pa_nil))))) (pa_nil))))))
    (pss_one (ps_set (i := 1) sc_rows_in.nd rfl (Or.inl rfl) (pv 3))))))
    (pss_one (ps_ret (pe_lcS (own := [("own", 4)]) rfl sc_rows_in.nd (k_list K (pe_thaw H (pv 1))) (blkOk_by (N := N_rows_in) (sc := defScope s_rows_in) (by decide +kernel)) (fun _ _ _ _ _ => pg_name (i := 4) sc_rows_in.nd rfl (Or.inl rfl)) (fun _ _ _ _ _ => pts_one (pt_cmpR (k_eqD K hr) (pv 4) (pe_fn F_least_in_turn hr (by decide) rfl (pa_cons (pv 4) (pa_nil))) (nomark _))) (fun _ _ _ _ _ => pv 4)))))), ?_⟩
  have M := okRows_of hk
  obtain ⟨a, rfl, ha⟩ := id h
  have hl := (okAll_of M.all).1
  have hs := M.sum
  obtain ⟨_, _, _, hs2⟩ := okAll_of M.all
  refine ⟨_, rfl, _, rfl, ns, h, M.all, fun H1 g1 => ⟨_, _, rfl, rfl, _, rfl, iteB (fun hc => ?_) (fun _ => ?_)⟩⟩
  · have := of_decide_eq_true hc
    have := M.few
    omega
  refine ⟨Nat.zero_le _, fun p o hp hd => ⟨(by show 1 ≤ sizeLine; decide), fun F hF => ?_⟩⟩
  have g2 : Same H1 (upd (upd H1 p (.frz o (.tup []))) F (.lst [.ref p])) := (same_new hp _).trans (same_new hF _)
  have hpF : p ≠ F := fun e => by rw [← e, upd_same] at hF; cases hF
  have hF1 : H1 F = none := by rw [upd_ne (Ne.symm hpF)] at hF; exact hF
  refine ⟨_, rfl, a, ns, rfl, SqT.of (g2 _ _ (g1 _ _ ha)), _, rfl, by omega, by omega, fun _ => True, ns.sum.toNat, _, fun i σ Hc => ∃ F ys x y z, σ = [some (.ref a), some (.ref F), x, y, z, none, none] ∧ Same H Hc ∧ H F = none ∧ Hc F = some (.lst ys) ∧ Paired (TF H Hc) ys (levelM ns i),
    src_rng0 (n := ns.sum.toNat), ⟨F, _, none, none, none, rfl, g1.trans g2, g1.free hF1, upd_same, .cons ⟨p, o, rfl, g1.free hp, by rw [upd_ne hpF, upd_same]; rfl, hd⟩ .nil⟩, fun _ _ _ _ => True.intro, ?_, ?_⟩
  · rintro i _ H2 H3 hi ⟨F, ys, x, y, z, rfl, g3, hFH, hF3, hp3⟩ e
    refine ⟨Nat.zero_le _, fun L hL => ?_⟩
    have g4 := g3.trans e
    have hLH := g4.free hL
    have hF4 := e _ _ hF3
    have hp4 := paired_mono (fun v b => sm_TF H _ _ v b e) hp3
    have hyl := paired_len hp4
    have lev := M.lev i (by omega)
    have lev2 := M.lev (i + 1) (by omega)
    have eL : Same H3 (upd H3 L (.lst [])) := same_new hL _
    refine ⟨_, rfl, F, rfl, ⟨_, SqL.of (eL _ _ hF4)⟩, _, _, _, fun j σ Hc => ∃ zs w, σ = [some (.ref a), some (.ref F), some (.int (i : Nat)), some (.ref L), w, none, none] ∧ Same H Hc ∧ Hc F = some (.lst ys) ∧ Paired (TF H Hc) ys (levelM ns i) ∧ Hc L = some (.lst zs) ∧ Paired (TF H Hc) zs (((levelM ns i).take j).flatMap (extM ns)),
      src_lst (xs := ys), ⟨[], z, rfl, g4.trans eL, eL _ _ hF4, paired_mono (fun v b => sm_TF H _ _ v b eL) hp4, upd_same, .nil⟩, fun j σ Hc ⟨_, _, _, _, q, _⟩ => SqL.of q, ?_, ?_⟩
    · rintro j _ H5 H6 hj ⟨zs, w, rfl, g5, hF5, hp5, hL5, hz5⟩ e5
      rw [hyl] at hj
      have g6 := g5.trans e5
      have ha6 := g6 _ _ ha
      have hL6 := e5 _ _ hL5
      have hF6 := e5 _ _ hF5
      have hp6 := paired_mono (fun v b => sm_TF H _ _ v b e5) hp5
      have hz6 := paired_mono (fun v b => sm_TF H _ _ v b e5) hz5
      obtain ⟨t6, m6⟩ := pairedG (d := []) hp6 hj
      have l6 := level_len ns i _ m6
      refine ⟨_, rfl, ty_lst hL6, _, rfl, a, _, rfl, .inr ⟨SqT.of ha6, List Int, TF H, _, _, _, fun k => if decide (((((levelM ns i).getD j []).count (k : Int) : Nat) : Int) < ns.getD k 0) = true then some ((levelM ns i).getD j [] ++ [(k : Int)]) else none, src_enumTI, by omega, fun H' g => SqT.of (g _ _ ha6), fun k hk => rfl,
        fun k hk H' g Q' q' => ?_, .inl ⟨sm_TF H, fun k b hk hb H' D g hD ⟨acc, hacc⟩ Q' q' => ?_⟩, fun D zs2 H7 hD g7 hY _ hp7 => ?_⟩⟩
      · obtain ⟨t, o, et, hb, ht, hd⟩ := sm_TF H _ _ _ _ g t6
        exact ⟨_, rfl, ⟨t, o, _, et, ht, hd⟩, _, rfl, t, (levelM ns i).getD j [], (k : Int), et, rfl, .inl (.inr ⟨o, ht⟩), _, rfl, _, _, rfl, rfl, _, rfl, ifs_some.mp (q' H' (Same.refl _))⟩
      · obtain ⟨t, o, et, hbt, ht, hd⟩ := sm_TF H _ _ _ _ g t6
        refine ⟨_, rfl, t, _, et, .inl (.inl (.inr ⟨o, ht⟩)), _, rfl, ?_, fun p o hp hd => ?_⟩
        · rw [List.length_append, List.length_map, l6, sizeLine_eq]
          show i + 1 ≤ _
          omega
        · refine q' _ _ (same_new hp _) ?_
          rw [if_some hb]
          refine ⟨p, o, rfl, g6.free (g.free hp), ?_, hd⟩
          rw [hide_get (fun z => by rw [z, hacc] at hp; cases hp), upd_same, List.map_append]
          rfl
      · have hL7 := g7 _ _ hL6
        have hLD : L ≠ D := fun z => by rw [← z, hL6] at hD; cases hD
        refine ⟨L, D, _, _, rfl, rfl, hL7, hY, ?_, zs ++ zs2, some (ys.getD j .non), rfl, same_mut (g6.trans g7) hLH _, ?_, ?_, upd_same, ?_⟩
        · have h1 := paired_len hz6
          have h2 := paired_len hp7
          have h3 := flatMap_le (extM ns) (levelM ns i) (j + 1)
          rw [flatMap_take (extM ns) [] hj, List.length_append] at h3
          have h4 : ((levelM ns i).flatMap (extM ns)).length ≤ 1000 := lev2
          have h5 : zs2.length = (extM ns ((levelM ns i).getD j [])).length := h2
          rw [sizeLine_eq]
          omega
        · rw [upd_ne (fun z => by rw [z, hL] at hF4; cases hF4)]
          exact g7 _ _ hF6
        · exact paired_mono (fun v b h => TF.put h hL7) (paired_mono (fun v b => sm_TF H _ _ v b g7) hp6)
        · rw [flatMap_take (extM ns) [] hj]
          exact paired_appR (paired_mono (fun v b h => TF.put h hL7) (paired_mono (fun v b => sm_TF H _ _ v b g7) hz6)) (paired_mono (fun v b h => TF.put h hL7) hp7)
    · rintro _ H5 ⟨zs, w, rfl, g5, hF5, hp5, hL5, hz5⟩
      rw [hyl, List.take_length] at hz5
      exact ⟨_, rfl, L, zs, _, _, _, rfl, g5, hLH, hL5, hz5⟩
  · rintro _ H2 ⟨F, ys, x, y, z, rfl, g3, hFH, hF3, hp3⟩
    have tF : thaw H H2 F = some (.lst ys) := thaw_keep hF3 fun o xs z => by cases z
    have tp : Paired (TI (thaw H H2)) ys (levelM ns ns.sum.toNat) := paired_mono (fun v b h => h.thaw) hp3
    have tg : Same H (thaw H H2) := thaw_same g3
    have hyl := paired_len hp3
    have lev := M.lev ns.sum.toNat (Nat.le_refl _)
    refine ⟨_, rfl, F, rfl, ⟨_, SqL.of tF⟩, List Int, TI, _, _, _, fun i => if decide ((levelM ns ns.sum.toNat).getD i [] = leastM ((levelM ns ns.sum.toNat).getD i [])) = true then some ((levelM ns ns.sum.toNat).getD i []) else none, src_lst (xs := ys), by omega, fun H' g => SqL.of (g _ _ tF), fun i hi => rfl,
      fun i hi H' g Q' q' => ?_, .inr ⟨km_TI, fun i b hi hb H' g Q' q' => ?_⟩, fun D zs H3 hD g4 hY _ hp => ?_⟩
    · rw [hyl] at hi
      obtain ⟨t, m⟩ := pairedG (d := []) tp hi
      have l := level_len ns _ _ m
      refine ⟨_, rfl, _, rfl, _, rfl, _, t.sm g, fun e => ?_, by omega, fun v H4 g5 t5 => ⟨_, _, (t.sm (g.trans g5)).dp, t5.dp, shaped_tI _, shaped_tI _, _, rfl, ?_⟩⟩
      · rw [e] at l
        have : 0 = ns.sum.toNat := l
        omega
      · rw [eqv_tI]
        exact ifs_some.mp (q' H4 g5)
    · rw [hyl] at hi
      obtain ⟨t, m⟩ := pairedG (d := []) tp hi
      refine ⟨_, rfl, q' _ _ (Same.refl _) ?_⟩
      rw [if_some hb]
      exact t.sm g
    · rw [hyl, fm_all (levelM ns ns.sum.toNat) [] (fun own => if decide (own = leastM own) = true then some own else none), fm_if] at hp
      exact q _ _ (tg.trans g4) ⟨D, zs, rfl, hY, hp⟩
def sp_rows : Sp := fun vs H Q _ => ∃ v1, vs = [v1] ∧ ∃ d ns, Dr H d v1 ∧ okD d 7 = true ∧ tupledD d = tI ns ∧ okRows ns = true ∧ ∀ v H', Same H H' → LL TI H' v (rowsM ns) → Q v H'
abbrev N_rows : List Str := ["numbers"]
abbrev s_rows : Stmt := topS 34
theorem sc_rows : FnScope N_rows ["numbers"] (defScope s_rows) := ⟨rfl, rfl, rfl, by decide +kernel, rfl, by decide +kernel, by decide +kernel⟩
theorem ok_rows {P : Program} {w : World} {K : PySem.W.Frag} {mg : Str → Option Value} {base : Heap} (Tt : Tx K mg "rows" s_rows ["numbers"]) (Bt : Bi mg) (F_rows_in : Fd P w K mg base "rows_in" 1 3 sp_rows_in) (F_sure_numbers : Fd P w K mg base "sure_numbers" 2 9 sp_sure_numbers) :
    Fd P w K mg base "rows" 1 10 sp_rows ∧ FdK P w K mg base "rows" ["numbers"] 10 sp_rows := by
  refine Tt.ok2 sc_rows (fun vs H Q E h => ?_) (fun f cdv A outer s H vs Q E hr h => ?_)
  · obtain ⟨_, rfl, _⟩ := h
    rfl
  obtain ⟨v1, rfl, d, ns, h, ho, e, hk, q⟩ := h
  refine ⟨_, pss_one (ps_ret (pe_fn F_rows_in hr (by decide) rfl (pa_cons (pe_fn F_sure_numbers hr (by decide) rfl (pa_cons (pv 0) (pa_cons (pe_int) (pa_nil)))) (pa_nil)))), ?_⟩
  have M := okRows_of hk
  refine ⟨_, rfl, _, _, rfl, d, ns, h, ho, e, M.ne, (okAll_of M.all).1, .inr ⟨1, rfl, M.one⟩, fun v H1 g1 t => ?_⟩
  exact ⟨_, rfl, ns, t, hk, fun v H2 g2 r => q _ _ (g1.trans g2) r⟩
end Rw

namespace Rw
open PySem PySem.Spec PyProof.Rows L2 Mth

/-! ### the disks led by a row -/
def spotsM (row : List Int) (k : Nat) : List Int := ofN ((List.range row.length).filter fun z => decide (row.getD z 0 = (k : Int)))
def ledRowM (row ms : List Int) : List (List Int) := (List.range ms.length).map fun k => greatestM (spotsM row k) (ms.getD k 0) row.length
theorem spots_len (row : List Int) (k : Nat) : (spotsM row k).length ≤ row.length := by
  unfold spotsM
  rw [ofN_len]
  have := List.length_filter_le (fun z => decide (row.getD z 0 = (k : Int))) (List.range row.length)
  rw [List.length_range] at this
  exact this
theorem spots_fm (row : List Int) (k : Nat) : (List.range row.length).filterMap (fun z => if decide (V.int (row.getD z 0) = V.int ((k : Nat) : Int)) = true then some ((z : Nat) : Int) else none) = spotsM row k := by
  rw [fm_ifg]
  unfold spotsM ofN
  congr 1
  exact filt_same fun x _ => vint_eq
def okLed (row : List Int) (n : Nat) : Prop := row ≠ [] ∧ row.length < 1000 ∧ n < 1000 ∧ ∀ k, k < n → spotsM row k ≠ []
def sp_led_in_row : Sp := fun vs H Q _ => ∃ v1 v2, vs = [v1, v2] ∧ ∃ (row ms : List Int), TI H v1 row ∧ TI H v2 ms ∧ okLed row ms.length ∧ ∀ v H', Same H H' → TL TI H' v (ledRowM row ms) → Q v H'
abbrev N_led_in_row : List Str := ["row", "numbers", "found", "letter", "number", "places", "place", "own"]
abbrev s_led_in_row : Stmt := topS 35
theorem sc_led_in_row : FnScope N_led_in_row ["row", "numbers"] (defScope s_led_in_row) := ⟨rfl, rfl, rfl, by decide +kernel, rfl, by decide +kernel, by decide +kernel⟩
theorem ok_led_in_row {P : Program} {w : World} {K : PySem.W.Frag} {mg : Str → Option Value} {base : Heap} (Tt : Tx K mg "led_in_row" s_led_in_row ["row", "numbers"]) (Bt : Bi mg) (F_greatest_in : Fd P w K mg base "greatest_in" 3 2 sp_greatest_in) :
    Fd P w K mg base "led_in_row" 2 3 sp_led_in_row := by
  refine Tt.ok sc_led_in_row (fun vs H Q E h => ?_) (fun f cdv A outer s H vs Q E hr h => ?_)
  · obtain ⟨_, _, rfl, _⟩ := h
    rfl
  obtain ⟨v1, v2, rfl, row, ms, h1, h2, ⟨hne, hl, hm, hs⟩, q⟩ := h
  refine ⟨_, pss_cons (ps_set (i := 2) sc_led_in_row.nd rfl (Or.inl rfl) (pe_lst (pa_nil)))
    (pss_cons (ps_forS PassesOwn.never rfl (k_enum K Bt (pv 1)) (k_tg K 2 rfl (pgs_cons (pg_name (i := 3) sc_led_in_row.nd rfl (Or.inr rfl)) (pgs_cons (pg_name (i := 4) sc_led_in_row.nd rfl (Or.inl rfl)) (pgs_nil)))) (pss_cons (ps_set (i := 5) sc_led_in_row.nd rfl (Or.inl rfl) (e_tuple K Bt (pe_lcS (own := [("place", 6), ("own", 7)]) rfl sc_led_in_row.nd (k_enum K Bt (pv 0)) (blkOk_by (N := N_led_in_row) (sc := defScope s_led_in_row) (by decide +kernel)) (fun _ _ _ _ _ => k_tg K 2 rfl (pgs_cons (pg_name (i := 6) sc_led_in_row.nd rfl (Or.inl rfl)) (pgs_cons (pg_name (i := 7) sc_led_in_row.nd rfl (Or.inl rfl)) (pgs_nil)))) (fun _ _ _ _ _ => pts_one (pt_cmpR op_eq (pv 7) (pv 3) (nomark _))) (fun _ _ _ _ _ => pv 6))))
    (pss_one (ps_expr (k_bm K PySem.F.plainAttrs_list PySem.F.slot_list_append PySem.F.type_list_append mt_append (pv 2) (pa_cons (pe_fn F_greatest_in hr (by decide) rfl (pa_cons (pv 5) (pa_cons (pv 4) (pa_cons (e_len K Bt (pv 0)) (pa_nil))))) (pa_nil)))))))
    (pss_one (ps_ret (e_tuple K Bt (pv 2))))), ?_⟩
  obtain ⟨a, rfl, ha⟩ := id h1
  obtain ⟨b, rfl, hb⟩ := id h2
  have hpos := pos_of_ne hne
  let g : Nat → List Int := fun k => greatestM (spotsM row k) (ms.getD k 0) row.length
  refine ⟨Nat.zero_le _, fun D hD => ?_⟩
  have hS := same_new hD (.lst [])
  refine ⟨_, rfl, b, _, rfl, .inr ⟨SqT.of (hS _ _ hb), _, _, _, fun i σ Hc => ∃ x y z ys, σ = [some (.ref a), some (.ref b), some (.ref D), x, y, z, none, none] ∧ Same H Hc ∧ Hc D = some (.lst ys) ∧ Paired (TI Hc) ys ((List.range i).map g),
    src_enumTI, ⟨none, none, none, [], rfl, hS, upd_same, .nil⟩, fun i σ Hc ⟨x, y, z, ys, _, g, _⟩ => SqT.of (g _ _ hb), ?_, ?_⟩⟩
  · rintro i _ H1 H2 hi ⟨x, y, z, ys, rfl, g1, hY, hp⟩ e
    have g2 := g1.trans e
    have ha2 := g2 _ _ ha
    refine ⟨_, rfl, a, _, rfl, .inr ⟨SqT.of ha2, Int, rI, _, _, _, fun z => if decide (V.int (row.getD z 0) = V.int ((i : Nat) : Int)) = true then some ((z : Nat) : Int) else none, src_enumTI, by omega, fun H' g => SqT.of (g _ _ ha2), fun j hj => rfl,
      fun j hj H' g Q' q' => ⟨_, rfl, _, rfl, rfl, _, rfl, ifs_some.mp (q' H' (Same.refl _))⟩, .inr ⟨km_I, fun j b hj hb H' g Q' q' => ⟨_, rfl, q' _ _ (Same.refl _) (congrArg V.int (if_some hb).symm)⟩⟩, fun E zs H3 hE g3 hZ _ hp3 => ?_⟩⟩
    rw [spots_fm] at hp3
    refine ⟨E, zs, rfl, .inl ⟨SqL.of hZ, fun l hl0 => ?_⟩⟩
    have g4 : Same H2 (upd H3 l (.tup zs)) := g3.trans (same_new hl0 _)
    have tP : TI (upd H3 l (.tup zs)) (.ref l) (spotsM row i) := ⟨l, rfl, by rw [upd_same, paired_I hp3]⟩
    have ha4 := g4 _ _ ha2
    have hY4 := g4 _ _ (e _ _ hY)
    have sl := spots_len row i
    refine ⟨_, rfl, ty_lst hY4, _, rfl, _, rfl, _, rfl, a, _, _, rfl, .inr (SqT.of ha4), len_int, _, _, _, rfl, spotsM row i, ms.getD i 0, row.length, tP, rfl, rfl, hs i hi, by omega, hpos, hl, fun v H5 g5 t5 => ?_⟩
    have hY5 := g5 _ _ hY4
    have pl := paired_len hp
    rw [List.length_map, List.length_range] at pl
    refine ⟨D, _, _, rfl, rfl, hY5, ?_, some (.int (i : Nat)), some (.int (ms.getD i 0)), some (.ref l), ys ++ [v], rfl, same_mut (g2.trans (g4.trans g5)) hD _, upd_same, ?_⟩
    · rw [sizeLine_eq]
      omega
    · rw [range_map_succ]
      refine paired_appR ?_ (.cons (t5.kp (Kp.lst hY5)) .nil)
      exact paired_mono (fun v b h => (h.sm (e.trans (g4.trans g5))).kp (Kp.lst hY5)) hp
  · rintro _ H1 ⟨x, y, z, ys, rfl, g1, hY, hp⟩
    refine ⟨_, rfl, D, ys, rfl, .inl ⟨SqL.of hY, fun l hl => ?_⟩⟩
    have e := same_new hl (.tup ys)
    exact q _ _ (g1.trans e) ⟨l, ys, rfl, upd_same, paired_mono (fun v b h => h.sm e) hp⟩
def sp_led_train : Sp := fun vs H Q _ => ∃ v1 v2, vs = [v1, v2] ∧ ∃ d1 d2 row ms, Dr H d1 v1 ∧ okD d1 7 = true ∧ tupledD d1 = tI row ∧ isWordI row = true ∧ Dr H d2 v2 ∧ okD d2 7 = true ∧ tupledD d2 = tI ms ∧ ms ≠ [] ∧ maxM row + 1 = (ms.length : Int) ∧ okLed row ms.length ∧
  ∀ v H', Same H H' → TL TI H' v (ledRowM row ms) → Q v H'
abbrev N_led_train : List Str := ["row", "numbers", "own", "told"]
abbrev s_led_train : Stmt := topS 36
theorem sc_led_train : FnScope N_led_train ["row", "numbers"] (defScope s_led_train) := ⟨rfl, rfl, rfl, by decide +kernel, rfl, by decide +kernel, by decide +kernel⟩
theorem ok_led_train {P : Program} {w : World} {K : PySem.W.Frag} {mg : Str → Option Value} {base : Heap} (Tt : Tx K mg "led_train" s_led_train ["row", "numbers"]) (Bt : Bi mg) (F_sure_row : Fd P w K mg base "sure_row" 2 10 sp_sure_row) (F_led_in_row : Fd P w K mg base "led_in_row" 2 3 sp_led_in_row) :
    Fd P w K mg base "led_train" 2 11 sp_led_train ∧ FdK P w K mg base "led_train" ["row", "numbers"] 11 sp_led_train := by
  refine Tt.ok2 sc_led_train (fun vs H Q E h => ?_) (fun f cdv A outer s H vs Q E hr h => ?_)
  · obtain ⟨_, _, rfl, _⟩ := h
    rfl
  obtain ⟨v1, v2, rfl, d1, d2, row, ms, h1, ho1, e1, hw, h2, ho2, e2, hne, hm, hk, q⟩ := h
  refine ⟨_, pss_cons (ps_asg (pe_fn F_sure_row hr (by decide) rfl (pa_cons (pv 0) (pa_cons (pv 1) (pa_nil)))) (k_tg K 2 rfl (pgs_cons (pg_name (i := 2) sc_led_train.nd rfl (Or.inl rfl)) (pgs_cons (pg_name (i := 3) sc_led_train.nd rfl (Or.inl rfl)) (pgs_nil)))))
    (pss_one (ps_ret (pe_fn F_led_in_row hr (by decide) rfl (pa_cons (pv 2) (pa_cons (pv 3) (pa_nil)))))), ?_⟩
  refine ⟨_, rfl, _, rfl, _, _, rfl, d1, d2, row, ms, h1, ho1, e1, hw, h2, ho2, e2, hne, hk.2.2.1, hm, fun v H1 g1 ⟨a, x, y, ev, ha, tx, ty⟩ => ?_⟩
  subst ev
  refine ⟨a, _, rfl, SqT.of ha, rfl, _, _, rfl, _, _, rfl, rfl, ?_⟩
  exact ⟨_, rfl, _, rfl, _, _, rfl, row, ms, tx, ty, hk, fun v H2 g2 r => q _ _ (g1.trans g2) r⟩

/-! ### the row of a train -/
def inO (ws : List Int) (x : Nat) : Bool := decide (x ∈ orb (stepF ws) (firstM ws) ws.length)
theorem inO_iff {ws : List Int} (h : ws ≠ []) (x : Nat) : inO ws x = true ↔ ∃ i, iter (stepF ws) i (firstM ws) = x := by
  obtain ⟨_, b, h1, h2, hb⟩ := first_in h
  unfold inO
  rw [decide_eq_true_iff]
  constructor
  · intro m
    obtain ⟨i, _, e⟩ := List.mem_map.mp m
    exact ⟨i, e⟩
  · intro m
    have z := (orb_mem (orb_per h1 hb) x).mpr m
    obtain ⟨i, hi, e⟩ := List.mem_map.mp z
    exact List.mem_map.mpr ⟨i, List.mem_range.mpr (by have := List.mem_range.mp hi; omega), e⟩
theorem inO_orb {ws : List Int} {k x : Nat} (h : ws ≠ []) (ho : orbitP ws (firstM ws) k) : decide (x ∈ orb (stepF ws) (firstM ws) k) = inO ws x := by
  have e1 := orb_mem ho x
  have e2 := inO_iff h x
  rw [Bool.eq_iff_iff, decide_eq_true_iff]
  exact e1.trans e2.symm
def lettersM (rs : List (List Int)) (z : Nat) : List Int := ofN ((List.range rs.length).filter fun k => inO (rs.getD k []) z)
def rowRawM (rs : List (List Int)) : List Int := (List.range (rs.getD 0 []).length).flatMap (lettersM rs)
def rowOfM (rs : List (List Int)) : List Int := leastM (rowRawM rs)
theorem inV_int (z : Int) : ∀ ns : List Int, inV (.int z) (ns.map V.int) = decide (z ∈ ns)
  | [] => by unfold inV; rfl
  | n :: ns => by
    have ih := inV_int z ns
    unfold inV at ih ⊢
    rw [List.map_cons, List.any_cons, ih]
    show (n == z || decide (z ∈ ns)) = decide (z ∈ n :: ns)
    rw [Bool.eq_iff_iff]
    simp only [Bool.or_eq_true, beq_iff_eq, decide_eq_true_eq, List.mem_cons]
    constructor
    · rintro (e | e)
      · exact .inl e.symm
      · exact .inr e
    · rintro (e | e)
      · exact .inl e.symm
      · exact .inr e
theorem flat_ints : ∀ ns : List Int, (ns.map V.int).all flatV = true
  | [] => rfl
  | n :: ns => by
    rw [List.map_cons, List.all_cons, flat_ints ns]
    rfl
theorem flatR_len {f : Nat → List Int} {m : Nat} (h : ∀ z, (f z).length ≤ m) : ∀ n, ((List.range n).flatMap f).length ≤ n * m
  | 0 => by simp
  | n + 1 => by
    rw [List.range_succ, List.flatMap_append, List.length_append]
    have := flatR_len h n
    have := h n
    have e : (n + 1) * m = n * m + m := Nat.succ_mul n m
    have e2 : ([n].flatMap f) = f n := by simp
    rw [e2]
    omega
theorem letters_len (rs : List (List Int)) (z : Nat) : (lettersM rs z).length ≤ rs.length := by
  unfold lettersM
  rw [ofN_len]
  have := List.length_filter_le (fun k => inO (rs.getD k []) z) (List.range rs.length)
  rw [List.length_range] at this
  exact this
theorem flatR_succ (f : Nat → List Int) (n : Nat) : (List.range (n + 1)).flatMap f = (List.range n).flatMap f ++ f n := by
  rw [List.range_succ, List.flatMap_append]
  simp
theorem raw_ne {rs : List (List Int)} (ht : trainP rs) : rowRawM rs ≠ [] := fun e => by
  have hp := pos_of_ne ht.1
  have hm : rs.getD 0 [] ∈ rs := by
    rw [getD_of (List.getElem?_eq_getElem hp)]
    exact List.getElem_mem hp
  have hw := (ht.2.2.1 _ hm).1.1
  obtain ⟨h1, _⟩ := first_in hw
  have : (0 : Int) ∈ rowRawM rs := List.mem_flatMap.mpr ⟨firstM (rs.getD 0 []), List.mem_range.mpr h1, mem_ofN (x := 0).mpr (List.mem_filter.mpr ⟨List.mem_range.mpr hp, (inO_iff hw _).mpr ⟨0, rfl⟩⟩)⟩
  rw [e] at this
  cases this
/-- the orbit of a wheel, as a list -/
def OL : Rp (List Int) := fun H v ws => ∃ k, orbitP ws (firstM ws) k ∧ LI H v (ofN (orb (stepF ws) (firstM ws) k))
theorem sm_OL : SM OL := fun _ _ _ _ e ⟨k, h1, h2⟩ => ⟨k, h1, sm_LI _ _ _ _ e h2⟩
theorem OL.put {H : Hp} {v : V} {ws : List Int} {L : Addr} {u : HO} (B : Hp) (hB : B L = none) (h : OL B v ws) (g : Same B H) : OL (upd H L u) v ws := by
  obtain ⟨k, h1, a, e, ha⟩ := h
  exact ⟨k, h1, a, e, by rw [upd_ne (ne_of_none ha hB)]; exact g _ _ ha⟩
theorem letters_fm {rs : List (List Int)} (hr : ∀ r ∈ rs, r ≠ []) (z : Nat) : (List.range rs.length).filterMap (fun k => if inO (rs.getD k []) z = true then some ((k : Nat) : Int) else none) = lettersM rs z := by
  rw [fm_ifg]
  rfl
def sp_row_of : Sp := fun vs H Q _ => ∃ v1, vs = [v1] ∧ ∃ d rs, Dr H d v1 ∧ okD d 7 = true ∧ tupledD d = tR rs ∧ trainP rs ∧ (rs.getD 0 []).length * rs.length < 1000 ∧ ∀ v H', Same H H' → TI H' v (rowOfM rs) → Q v H'
abbrev N_row_of : List Str := ["train", "own", "orbits", "found", "place", "wheel", "letter", "orbit"]
abbrev s_row_of : Stmt := topS 37
theorem sc_row_of : FnScope N_row_of ["train"] (defScope s_row_of) := ⟨rfl, rfl, rfl, by decide +kernel, rfl, by decide +kernel, by decide +kernel⟩
theorem ok_row_of {P : Program} {w : World} {K : PySem.W.Frag} {mg : Str → Option Value} {base : Heap} (Tt : Tx K mg "row_of" s_row_of ["train"]) (Bt : Bi mg) (F_sure_train : Fd P w K mg base "sure_train" 1 9 sp_sure_train) (F_places_in : Fd P w K mg base "places_in" 2 2 sp_places_in) (F_come_back_in : Fd P w K mg base "come_back_in" 1 2 sp_come_back_in) (F_least_in_turn : Fd P w K mg base "least_in_turn" 1 2 sp_least_in_turn) :
    Fd P w K mg base "row_of" 1 10 sp_row_of ∧ FdK P w K mg base "row_of" ["train"] 10 sp_row_of := by
  refine Tt.ok2 sc_row_of (fun vs H Q E h => ?_) (fun f cdv A outer s H vs Q E hr h => ?_)
  · obtain ⟨_, rfl, _⟩ := h
    rfl
  obtain ⟨v1, rfl, d, rs, h, ho, e, ht, hz, q⟩ := h
  refine ⟨_, pss_cons (ps_set (i := 1) sc_row_of.nd rfl (Or.inl rfl) (pe_fn F_sure_train hr (by decide) rfl (pa_cons (pv 0) (pa_nil))))
    (pss_cons (ps_setLcS (i := 2) (own := [("wheel", 5)]) rfl sc_row_of.nd rfl rfl (sw_true rfl rfl rfl (by decide +kernel)) (k_tup K (pv 1)) (blkOk_by (N := N_row_of) (sc := defScope s_row_of) (by decide +kernel)) (fun _ _ _ _ _ => pg_name (i := 5) sc_row_of.nd rfl (Or.inl rfl)) (fun _ _ _ _ _ => pts_nil) (fun _ _ _ _ _ => pe_fn F_places_in hr (by decide) rfl (pa_cons (pv 5) (pa_cons (pe_ix (k_ixT K) (pe_fn F_come_back_in hr (by decide) rfl (pa_cons (pv 5) (pa_nil))) (pe_int) (fun _ _ => rfl)) (pa_nil)))))
    (pss_cons (ps_set (i := 3) sc_row_of.nd rfl (Or.inl rfl) (pe_lst (pa_nil)))
    (pss_cons (ps_forS PassesOwn.never rfl (pi_range1 rfl Bt.range (pa_cons (e_len K Bt (pe_ix (k_ixT K) (pv 1) (pe_int) (fun _ _ => rfl))) (pa_nil))) (pg_name (i := 4) sc_row_of.nd rfl (Or.inr rfl)) (pss_one (ps_expr (k_bm K PySem.F.plainAttrs_list PySem.F.slot_list_extend PySem.F.type_list_extend mt_extend (pv 3) (pa_cons (pe_lcS (own := [("letter", 6), ("orbit", 7)]) rfl sc_row_of.nd (k_enum K Bt (pv 2)) (blkOk_by (N := N_row_of) (sc := defScope s_row_of) (by decide +kernel)) (fun _ _ _ _ _ => k_tg K 2 rfl (pgs_cons (pg_name (i := 6) sc_row_of.nd rfl (Or.inl rfl)) (pgs_cons (pg_name (i := 7) sc_row_of.nd rfl (Or.inl rfl)) (pgs_nil)))) (fun _ _ _ _ _ => pts_one (pt_cmpR (k_in K) (pv 4) (pv 7) rfl)) (fun _ _ _ _ _ => pv 6)) (pa_nil))))))
    (pss_one (ps_ret (pe_fn F_least_in_turn hr (by decide) rfl (pa_cons (e_tuple K Bt (pv 3)) (pa_nil)))))))), ?_⟩
  have hpos := pos_of_ne ht.1
  have hlr := ht.2.1
  refine ⟨_, rfl, _, rfl, d, rs, h, ho, e, ht, fun v H1 g1 t => ?_⟩
  obtain ⟨a, vs, rfl, ha, hvs⟩ := id t
  have hvl := paired_len hvs
  have hN := (ht.2.2.1 _ (paired_getD hvs hpos).2).2
  have hne : ∀ r ∈ rs, r ≠ [] := fun r hr => (ht.2.2.1 r hr).1.1
  refine ⟨_, rfl, a, rfl, ⟨_, SqT.of ha⟩, List Int, OL, _, _, _, fun i => some (rs.getD i []), src_tup (xs := vs), by omega, fun H' g => SqT.of (g _ _ ha), fun i hi => rfl,
    fun i hi H' g Q' q' => q' H' (Same.refl _), .inl ⟨sm_OL, fun i b hi hb H' D g hD ⟨acc, hacc⟩ Q' q' => ?_⟩, fun O os H2 hO g2 hY _ hp => ?_⟩
  · rw [hvl] at hi
    obtain ⟨t, m⟩ := paired_getD hvs (i := i) hi
    obtain ⟨hw, hwl⟩ := ht.2.2.1 _ m
    obtain ⟨f1, _⟩ := first_in hw.1
    refine ⟨_, rfl, _, rfl, _, rfl, _, t.sm g, hw.1, hwl, fun v H3 g3 ⟨c, b1, r1, ev, hc⟩ => ?_⟩
    subst ev
    refine ⟨c, _, _, .int (firstM (rs.getD i []) : Nat), rfl, rfl, SqT.of hc, rfl, _, _, rfl, rs.getD i [], firstM (rs.getD i []), t.sm (g.trans g3), rfl, f1, hwl, fun v H4 k g4 ho hk hL => ?_⟩
    refine q' _ _ (g3.trans g4) ?_
    rw [← Option.some.inj hb]
    exact ⟨k, ho, sm_LI _ _ _ _ ((newOf_step (g.trans g3) (g3 _ _ hacc)).trans newOf_le) hL⟩
  rw [hvl, fm_all rs [] (fun r => some r), fm_some, List.map_id'] at hp
  have hol := paired_len hp
  refine ⟨Nat.zero_le _, fun F hF => ?_⟩
  have gF := same_new hF (.lst [])
  have gB := g1.trans g2
  have hFH := gB.free hF
  have haF := gF _ _ (g2 _ _ ha)
  obtain ⟨⟨w0, ew, hw0⟩, m0⟩ := paired_getD hvs hpos
  refine ⟨_, rfl, a, _, _, _, rfl, rfl, SqT.of haF, atI_get0 (by decide) (by omega), w0, _, _, congrArg (fun z => [z]) ew, .inr (SqT.of (gF _ _ (g2 _ _ hw0))), len_int, ?_⟩
  refine ⟨_, rfl, by omega, by omega, fun _ => True, (rs.getD 0 []).length, _, fun i σ Hc => ∃ x, σ = [some v1, some (.ref a), some (.ref O), some (.ref F), x, none, none, none] ∧ Same H2 Hc ∧ Hc F = some (.lst (((List.range i).flatMap (lettersM rs)).map V.int)),
    src_rng0 (n := (rs.getD 0 []).length), ⟨none, rfl, gF, upd_same⟩, fun _ _ _ _ => True.intro, ?_, ?_⟩
  · rintro z _ H3 H4 hz' ⟨x, rfl, g3, hF3⟩ e
    have g4 := g3.trans e
    have hO4 := g4 _ _ hY
    refine ⟨_, rfl, ty_lst (e _ _ hF3), _, rfl, O, _, rfl, .inl ⟨SqL.of hO4, Int, rI, _, _, _, fun k => if inO (rs.getD k []) z = true then some ((k : Nat) : Int) else none, src_enumL, by omega, fun H' g => SqL.of (g _ _ hO4), fun k hk => rfl,
      fun k hk H' g Q' q' => ?_, .inr ⟨km_I, fun k b hk hb H' g Q' q' => ⟨_, rfl, q' _ _ (Same.refl _) (congrArg V.int (if_some hb).symm)⟩⟩, fun E zs H5 hE g5 hZ _ hp5 => ?_⟩⟩
    · rw [hol] at hk
      obtain ⟨⟨j, oj, c, ec, hc⟩, mm⟩ := pairedG (d := []) hp hk
      refine ⟨_, rfl, _, rfl, c, _, ec, .inl (SqL.of (g _ _ (g4 _ _ hc))), rfl, flat_ints _, _, rfl, ?_⟩
      show Q' (inV (.int (z : Nat)) _) H'
      rw [inV_int]
      have e1 : decide (((z : Nat) : Int) ∈ ofN (orb (stepF (rs.getD k [])) (firstM (rs.getD k [])) j)) = inO (rs.getD k []) z := by
        rw [← inO_orb (hne _ mm) oj]
        exact decide_eq_decide.mpr mem_ofN
      rw [e1]
      exact ifs_some.mp (q' H' (Same.refl _))
    · rw [hol, letters_fm hne] at hp5
      have hF5 := g5 _ _ (e _ _ hF3)
      have ez := paired_I hp5
      rw [ez] at hZ
      refine ⟨F, E, _, _, rfl, rfl, hF5, hZ, ?_, some (.int (z : Nat)), rfl, same_mut (g4.trans g5) hF _, ?_⟩
      · rw [List.length_map, List.length_map]
        have h1 := flatR_len (letters_len rs) z
        have h2 := letters_len rs z
        have h3 : z * rs.length ≤ 1000 * 1000 := Nat.mul_le_mul (by omega) (by omega)
        rw [sizeLine_eq]
        omega
      · rw [upd_same, flatR_succ, List.map_append]
  · rintro _ H3 ⟨x, rfl, g3, hF3⟩
    refine ⟨_, rfl, F, _, rfl, .inl ⟨SqL.of hF3, fun l hl => ?_⟩⟩
    have g4 : Same H2 (upd H3 l (.tup ((rowRawM rs).map V.int))) := g3.trans (same_new hl _)
    have hlen : (rowRawM rs).length < 1000 := by
      have := flatR_len (letters_len rs) (rs.getD 0 []).length
      exact Nat.lt_of_le_of_lt this hz
    exact ⟨_, rfl, rowRawM rs, ⟨l, rfl, upd_same⟩, raw_ne ht, hlen, fun v H5 g5 t5 => q _ _ (gB.trans (g4.trans g5)) t5⟩
end Rw

namespace Rw
open PySem PySem.Spec PyProof.Rows L2 Mth

/-! ### the law's own count -/
theorem lgreat_eq (ps : List Int) (m : Int) (ring : Nat) : lgreatM ps m ring = greatestM ps m ring := by
  unfold lgreatM greatestM
  congr 1
  funext z
  unfold aheadM
  congr 1
  omega
def sp_led_disks_L : Sp := sp_led_in_row
abbrev N_led_disks_L : List Str := ["_law_row_so", "_law_steps_so", "_law_found", "_law_k", "_law_own", "_law_spots_so", "_law_z", "_law_its"]
abbrev s_led_disks_L : Stmt := topS 54
theorem sc_led_disks_L : FnScope N_led_disks_L ["_law_row_so", "_law_steps_so"] (defScope s_led_disks_L) := ⟨rfl, rfl, rfl, by decide +kernel, rfl, by decide +kernel, by decide +kernel⟩
theorem ok_led_disks_L {P : Program} {w : World} {K : PySem.W.Frag} {mg : Str → Option Value} {base : Heap} (Tt : Tx K mg "_law_led_disks" s_led_disks_L ["_law_row_so", "_law_steps_so"]) (Bt : Bi mg) (F_greatest_L : Fd P w K mg base "_law_greatest" 3 2 sp_greatest_L) :
    Fd P w K mg base "_law_led_disks" 2 3 sp_led_disks_L := by
  refine Tt.ok sc_led_disks_L (fun vs H Q E h => ?_) (fun f cdv A outer s H vs Q E hr h => ?_)
  · obtain ⟨_, _, rfl, _⟩ := h
    rfl
  obtain ⟨v1, v2, rfl, row, ms, h1, h2, ⟨hne, hl, hm, hs⟩, q⟩ := h
  refine ⟨_, pss_cons (ps_set (i := 2) sc_led_disks_L.nd rfl (Or.inl rfl) (pe_lst (pa_nil)))
    (pss_cons (ps_forS PassesOwn.never rfl (k_enum K Bt (pv 1)) (k_tg K 2 rfl (pgs_cons (pg_name (i := 3) sc_led_disks_L.nd rfl (Or.inr rfl)) (pgs_cons (pg_name (i := 4) sc_led_disks_L.nd rfl (Or.inl rfl)) (pgs_nil)))) (pss_cons (ps_set (i := 5) sc_led_disks_L.nd rfl (Or.inl rfl) (e_tuple K Bt (pe_lcS (own := [("_law_z", 6), ("_law_its", 7)]) rfl sc_led_disks_L.nd (k_enum K Bt (pv 0)) (blkOk_by (N := N_led_disks_L) (sc := defScope s_led_disks_L) (by decide +kernel)) (fun _ _ _ _ _ => k_tg K 2 rfl (pgs_cons (pg_name (i := 6) sc_led_disks_L.nd rfl (Or.inl rfl)) (pgs_cons (pg_name (i := 7) sc_led_disks_L.nd rfl (Or.inl rfl)) (pgs_nil)))) (fun _ _ _ _ _ => pts_one (pt_cmpR op_eq (pv 7) (pv 3) (nomark _))) (fun _ _ _ _ _ => pv 6))))
    (pss_one (ps_expr (k_bm K PySem.F.plainAttrs_list PySem.F.slot_list_append PySem.F.type_list_append mt_append (pv 2) (pa_cons (pe_fn F_greatest_L hr (by decide) rfl (pa_cons (pv 5) (pa_cons (pv 4) (pa_cons (e_len K Bt (pv 0)) (pa_nil))))) (pa_nil)))))))
    (pss_one (ps_ret (e_tuple K Bt (pv 2))))), ?_⟩
  obtain ⟨a, rfl, ha⟩ := id h1
  obtain ⟨b, rfl, hb⟩ := id h2
  have hpos := pos_of_ne hne
  let g : Nat → List Int := fun k => greatestM (spotsM row k) (ms.getD k 0) row.length
  refine ⟨Nat.zero_le _, fun D hD => ?_⟩
  have hS := same_new hD (.lst [])
  refine ⟨_, rfl, b, _, rfl, .inr ⟨SqT.of (hS _ _ hb), _, _, _, fun i σ Hc => ∃ x y z ys, σ = [some (.ref a), some (.ref b), some (.ref D), x, y, z, none, none] ∧ Same H Hc ∧ Hc D = some (.lst ys) ∧ Paired (TI Hc) ys ((List.range i).map g),
    src_enumTI, ⟨none, none, none, [], rfl, hS, upd_same, .nil⟩, fun i σ Hc ⟨x, y, z, ys, _, g, _⟩ => SqT.of (g _ _ hb), ?_, ?_⟩⟩
  · rintro i _ H1 H2 hi ⟨x, y, z, ys, rfl, g1, hY, hp⟩ e
    have g2 := g1.trans e
    have ha2 := g2 _ _ ha
    refine ⟨_, rfl, a, _, rfl, .inr ⟨SqT.of ha2, Int, rI, _, _, _, fun z => if decide (V.int (row.getD z 0) = V.int ((i : Nat) : Int)) = true then some ((z : Nat) : Int) else none, src_enumTI, by omega, fun H' g => SqT.of (g _ _ ha2), fun j hj => rfl,
      fun j hj H' g Q' q' => ⟨_, rfl, _, rfl, rfl, _, rfl, ifs_some.mp (q' H' (Same.refl _))⟩, .inr ⟨km_I, fun j b hj hb H' g Q' q' => ⟨_, rfl, q' _ _ (Same.refl _) (congrArg V.int (if_some hb).symm)⟩⟩, fun E zs H3 hE g3 hZ _ hp3 => ?_⟩⟩
    rw [spots_fm] at hp3
    refine ⟨E, zs, rfl, .inl ⟨SqL.of hZ, fun l hl0 => ?_⟩⟩
    have g4 : Same H2 (upd H3 l (.tup zs)) := g3.trans (same_new hl0 _)
    have tP : TI (upd H3 l (.tup zs)) (.ref l) (spotsM row i) := ⟨l, rfl, by rw [upd_same, paired_I hp3]⟩
    have ha4 := g4 _ _ ha2
    have hY4 := g4 _ _ (e _ _ hY)
    have sl := spots_len row i
    refine ⟨_, rfl, ty_lst hY4, _, rfl, _, rfl, _, rfl, a, _, _, rfl, .inr (SqT.of ha4), len_int, _, _, _, rfl, spotsM row i, ms.getD i 0, row.length, tP, rfl, rfl, hs i hi, by omega, hpos, hl, fun v H5 g5 t5 => ?_⟩
    rw [lgreat_eq] at t5
    have hY5 := g5 _ _ hY4
    have pl := paired_len hp
    rw [List.length_map, List.length_range] at pl
    refine ⟨D, _, _, rfl, rfl, hY5, ?_, some (.int (i : Nat)), some (.int (ms.getD i 0)), some (.ref l), ys ++ [v], rfl, same_mut (g2.trans (g4.trans g5)) hD _, upd_same, ?_⟩
    · rw [sizeLine_eq]
      omega
    · rw [range_map_succ]
      refine paired_appR ?_ (.cons (t5.kp (Kp.lst hY5)) .nil)
      exact paired_mono (fun v b h => (h.sm (e.trans (g4.trans g5))).kp (Kp.lst hY5)) hp
  · rintro _ H1 ⟨x, y, z, ys, rfl, g1, hY, hp⟩
    refine ⟨_, rfl, D, ys, rfl, .inl ⟨SqL.of hY, fun l hl => ?_⟩⟩
    have e := same_new hl (.tup ys)
    exact q _ _ (g1.trans e) ⟨l, ys, rfl, upd_same, paired_mono (fun v b h => h.sm e) hp⟩
def sp_shared_L : Sp := fun vs H Q _ => ∃ v1 v2, vs = [v1, v2] ∧ ∃ (a b : Nat), v1 = .int (a : Nat) ∧ v2 = .int (b : Nat) ∧ ∀ H', Same H H' → Q (.int (Nat.gcd a b : Nat)) H'
abbrev N_shared_L : List Str := ["_law_one_so", "_law_two_so"]
abbrev s_shared_L : Stmt := topS 52
theorem sc_shared_L : FnScope N_shared_L ["_law_one_so", "_law_two_so"] (defScope s_shared_L) := ⟨rfl, rfl, rfl, by decide +kernel, rfl, by decide +kernel, by decide +kernel⟩
theorem ok_shared_L {P : Program} {w : World} {K : PySem.W.Frag} {mg : Str → Option Value} {base : Heap} (Tt : Tx K mg "_law_shared" s_shared_L ["_law_one_so", "_law_two_so"]) (Bt : Bi mg) :
    Fd P w K mg base "_law_shared" 2 1 sp_shared_L := by
  refine Tt.ok sc_shared_L (fun vs H Q E h => ?_) (fun f cdv A outer s H vs Q E hr h => ?_)
  · obtain ⟨_, _, rfl, _⟩ := h
    rfl
  obtain ⟨_, _, rfl, a, b, rfl, rfl, q⟩ := h
  refine ⟨_, pss_cons (ps_while PassesOwn.never (pt_cmpR op_gt (pv 1) (pe_int) (nomark _)) (pss_one (ps_par (by rfl) sc_shared_L.nd (i := 0) (j := 1) rfl rfl (by decide) rfl rfl (pa_cons (pv 1) (pa_cons (pe_op op_mod (pv 0) (pv 1)) (pa_nil))) (by rfl))))
    (pss_one (ps_ret (pv 0))), ?_⟩
  refine ⟨fun m σ Hc => ∃ (x : Nat), σ = [some (.int (x : Nat)), some (.int (m : Nat))] ∧ Same H Hc ∧ Nat.gcd x m = Nat.gcd a b, ⟨b, a, rfl, Same.refl _, rfl⟩, ?_⟩
  rintro m _ H1 ⟨x, rfl, g, e⟩
  refine ⟨_, rfl, _, _, rfl, rfl, _, rfl, iteB (fun hc => ?_) (fun hc => ?_)⟩
  · have hm : 0 < m := by
      have := of_decide_eq_true hc
      omega
    refine ⟨fun σ Hc => σ = [some (.int (m : Nat)), some (.int ((x % m : Nat) : Int))] ∧ Same H Hc, fun σ' H' w => ⟨x % m, Nat.mod_lt _ hm, m, w.1, w.2, ?_⟩, ?_⟩
    · rw [Nat.gcd_comm, ← Nat.gcd_rec, Nat.gcd_comm, e]
    · exact ⟨_, rfl, _, rfl, _, rfl, _, _, rfl, rfl, (by show (0 : Int) < _; omega), _, _, rfl, rfl, g⟩
  · have hm : m = 0 := by
      have := of_decide_eq_false hc
      omega
    subst hm
    refine ⟨_, rfl, ?_⟩
    rw [Nat.gcd_zero_right] at e
    rw [e]
    exact q _ g
def stepL (s : Int × Int) (k : Nat) : Int × Int := (s.1 * (s.2 + 1) / (1 + (k : Int)), s.2 + 1)
def runL (s : Int × Int) (n : Int) : Int × Int := (List.range (n + 1 - 1).toNat).foldl stepL s
def lmanyM (ns : List Int) : Int := (ns.foldl runL (1, 0)).1
theorem run_two (s : Int × Int) (k : Nat) : ((List.range k).foldl stepL s).2 = s.2 + k := by
  induction k with
  | zero => simp
  | succ k ih =>
    rw [List.range_succ, List.foldl_append]
    show ((List.range k).foldl stepL s).2 + 1 = _
    rw [ih]
    omega
def sp_many_L : Sp := fun vs H Q _ => ∃ v1, vs = [v1] ∧ ∃ (ns : List Int), LI H v1 ns ∧ ns.length < 1000 ∧ (∀ n ∈ ns, 0 ≤ n ∧ n < 1000) ∧ ∀ H', Same H H' → Q (.int (lmanyM ns)) H'
abbrev N_many_L : List Str := ["_law_numbers_so", "_law_found", "_law_all_so", "_law_own", "_law_k"]
abbrev s_many_L : Stmt := topS 57
theorem sc_many_L : FnScope N_many_L ["_law_numbers_so"] (defScope s_many_L) := ⟨rfl, rfl, rfl, by decide +kernel, rfl, by decide +kernel, by decide +kernel⟩
theorem ok_many_L {P : Program} {w : World} {K : PySem.W.Frag} {mg : Str → Option Value} {base : Heap} (Tt : Tx K mg "_law_many" s_many_L ["_law_numbers_so"]) (Bt : Bi mg) :
    Fd P w K mg base "_law_many" 1 1 sp_many_L := by
  refine Tt.ok sc_many_L (fun vs H Q E h => ?_) (fun f cdv A outer s H vs Q E hr h => ?_)
  · obtain ⟨_, rfl, _⟩ := h
    rfl
  obtain ⟨_, rfl, ns, ⟨a, rfl, ha⟩, hl, hn, q⟩ := h
  refine ⟨_, pss_cons (ps_asg (pe_tup (pa_cons (pe_int) (pa_cons (pe_int) (pa_nil)))) (k_tg K 2 rfl (pgs_cons (pg_name (i := 1) sc_many_L.nd rfl (Or.inl rfl)) (pgs_cons (pg_name (i := 2) sc_many_L.nd rfl (Or.inl rfl)) (pgs_nil)))))
    (pss_cons (ps_forS PassesOwn.never rfl (k_list K (pv 0)) (pg_name (i := 3) sc_many_L.nd rfl (Or.inl rfl)) (pss_one (ps_forS PassesOwn.never rfl (pi_range2 rfl Bt.range (pa_cons (pe_int) (pa_cons (pe_op op_add (pv 3) (pe_int)) (pa_nil)))) (pg_name (i := 4) sc_many_L.nd rfl (Or.inl rfl)) (pss_cons (ps_set (i := 2) sc_many_L.nd rfl (Or.inl rfl) (pe_op op_add (pv 2) (pe_int)))
    (pss_one (ps_set (i := 1) sc_many_L.nd rfl (Or.inl rfl) (pe_op op_fdiv (pe_op op_mul (pv 1) (pv 2)) (pv 4))))))))
    (pss_one (ps_ret (pv 1)))), ?_⟩
  let pre (i : Nat) : Int × Int := (ns.take i).foldl runL (1, 0)
  refine ⟨(by show 2 ≤ sizeLine; decide), fun p hp => ⟨p, _, rfl, SqT.of upd_same, rfl, _, _, rfl, _, _, rfl, rfl, ?_⟩⟩
  have g0 := same_new hp (.tup [.int 1, .int 0])
  refine ⟨_, rfl, a, rfl, ⟨_, SqL.of (g0 _ _ ha)⟩, _, _, _, fun i σ Hc => ∃ y z, σ = [some (.ref a), some (.int (pre i).1), some (.int (pre i).2), y, z] ∧ Same H Hc ∧ 0 ≤ (pre i).2 ∧ (pre i).2 ≤ (i : Int) * 1000, src_lstI, ⟨none, none, rfl, g0, Int.le_refl _, Int.le_refl _⟩, fun i σ Hc ⟨_, _, _, g, _⟩ => SqL.of (g _ _ ha), ?_, ?_⟩
  · rintro i _ H1 H2 hi ⟨y, z, rfl, g1, p0, p1⟩ e
    have hx := hn _ (getD_mem hi)
    have es : pre (i + 1) = runL (pre i) (ns.getD i 0) := fold_take runL _ 0 hi
    refine ⟨_, rfl, _, _, rfl, rfl, _, _, rfl, ⟨by decide, by decide, by omega, by omega⟩, _, _, _, fun k σ Hc => ∃ z, σ = [some (.ref a), some (.int ((List.range k).foldl stepL (pre i)).1), some (.int ((List.range k).foldl stepL (pre i)).2), some (.int (ns.getD i 0)), z] ∧ Same H Hc,
      src_rng, ⟨z, rfl, g1.trans e⟩, fun _ _ _ _ => True.intro, ?_, ?_⟩
    · rintro k _ H3 H4 hk ⟨z, rfl, g3⟩ e3
      have h2 := run_two (pre i) k
      refine ⟨_, rfl, _, _, rfl, rfl, ?_⟩
      refine ⟨_, rfl, _, rfl, _, _, rfl, rfl, .inr ⟨?_, ?_⟩, _, rfl, _, _, rfl, rfl, ⟨by omega, by omega⟩, some (.int (1 + (k : Int))), ?_, g3.trans e3⟩
      · rw [h2]
        have : (0 : Int) ≤ (k : Int) := by omega
        omega
      · rw [h2]
        omega
      · rw [List.range_succ, List.foldl_append]
        rfl
    · rintro _ H3 ⟨z, rfl, g3⟩
      refine ⟨some (.int (ns.getD i 0)), z, ?_, g3, ?_, ?_⟩
      · rw [es]
        rfl
      · rw [es]
        show 0 ≤ ((List.range (ns.getD i 0 + 1 - 1).toNat).foldl stepL (pre i)).2
        rw [run_two]
        omega
      · rw [es]
        show ((List.range (ns.getD i 0 + 1 - 1).toNat).foldl stepL (pre i)).2 ≤ _
        rw [run_two]
        omega
  · rintro _ H1 ⟨y, z, rfl, g1, p0, p1⟩
    refine ⟨_, rfl, ?_⟩
    have e : pre ns.length = ns.foldl runL (1, 0) := by
      show (ns.take ns.length).foldl runL (1, 0) = _
      rw [List.take_length]
    rw [e]
    exact q _ g1
def shareN (ns : List Int) : Nat := ns.foldl (fun a n => Nat.gcd a n.toNat) 0
def goodM (k : Int) : Nat := ((List.range (k + 1 - 1).toNat).filter fun n => decide (V.int ((Nat.gcd (1 + n) k.toNat : Nat) : Int) = V.int 1)).length
def stepC (ns : List Int) (acc : Int) (i : Nat) : Int := if (shareN ns : Int) % (1 + (i : Int)) = 0 then acc + (goodM (1 + (i : Int)) : Int) * lmanyM (ns.map fun n => n / (1 + (i : Int))) else acc
def countM (ns : List Int) : Int := (List.range ((shareN ns : Int) + 1 - 1).toNat).foldl (stepC ns) 0 / ns.sum
def okCount (ns : List Int) : Bool := decide (ns.length < 1000) && ns.all (fun n => decide (0 ≤ n) && decide (n < 1000)) && decide (shareN ns < 1000) && decide (0 < ns.sum) && decide (ns.sum < 1000)
theorem okCount_of {ns : List Int} (h : okCount ns = true) : ns.length < 1000 ∧ (∀ n ∈ ns, 0 ≤ n ∧ n < 1000) ∧ shareN ns < 1000 ∧ 0 < ns.sum ∧ ns.sum < 1000 := by
  unfold okCount at h
  simp only [Bool.and_eq_true, List.all_eq_true, decide_eq_true_eq] at h
  obtain ⟨⟨⟨⟨a, b⟩, c⟩, d⟩, e⟩ := h
  exact ⟨a, b, c, d, e⟩
def sp_count_L : Sp := fun vs H Q _ => ∃ v1, vs = [v1] ∧ ∃ (ns : List Int), TI H v1 ns ∧ okCount ns = true ∧ ∀ H', Same H H' → Q (.int (countM ns)) H'
abbrev N_count_L : List Str := ["_law_numbers_so", "_law_share_so", "_law_found", "_law_total_so", "_law_own", "_law_k", "_law_good_so", "_law_n"]
abbrev s_count_L : Stmt := topS 60
theorem sc_count_L : FnScope N_count_L ["_law_numbers_so"] (defScope s_count_L) := ⟨rfl, rfl, rfl, by decide +kernel, rfl, by decide +kernel, by decide +kernel⟩
theorem ok_count_L {P : Program} {w : World} {K : PySem.W.Frag} {mg : Str → Option Value} {base : Heap} (Tt : Tx K mg "_law_count" s_count_L ["_law_numbers_so"]) (Bt : Bi mg) (F_shared_L : Fd P w K mg base "_law_shared" 2 1 sp_shared_L) (F_many_L : Fd P w K mg base "_law_many" 1 1 sp_many_L) :
    Fd P w K mg base "_law_count" 1 2 sp_count_L := by
  refine Tt.ok sc_count_L (fun vs H Q E h => ?_) (fun f cdv A outer s H vs Q E hr h => ?_)
  · obtain ⟨_, rfl, _⟩ := h
    rfl
  obtain ⟨_, rfl, ns, ⟨a, rfl, ha⟩, hk, q⟩ := h
  refine ⟨_, pss_cons (ps_par3 (by rfl) sc_count_L.nd (i := 1) (j := 2) (l := 3) rfl rfl rfl (by decide) (by decide) (by decide) rfl rfl rfl (pa_cons (pe_int) (pa_cons (pe_int) (pa_cons (e_sumT K Bt (pv 0)) (pa_nil)))) (by rfl))
    (pss_cons (ps_forS PassesOwn.never rfl (k_tup K (pv 0)) (pg_name (i := 4) sc_count_L.nd rfl (Or.inl rfl)) (pss_one (ps_set (i := 1) sc_count_L.nd rfl (Or.inl rfl) (pe_fn F_shared_L hr (by decide) rfl (pa_cons (pv 1) (pa_cons (pv 4) (pa_nil)))))))
    (pss_cons (ps_forS PassesOwn.never rfl (pi_range2 rfl Bt.range (pa_cons (pe_int) (pa_cons (pe_op op_add (pv 1) (pe_int)) (pa_nil)))) (pg_name (i := 5) sc_count_L.nd rfl (Or.inr rfl)) (pss_one (ps_if (pt_cmpR op_eq (pe_op op_mod (pv 1) (pv 5)) (pe_int) (nomark _)) (pss_cons (ps_set (i := 6) sc_count_L.nd rfl (Or.inl rfl) (e_len K Bt (pe_lcS (own := [("_law_n", 7)]) rfl sc_count_L.nd (pi_range2 rfl Bt.range (pa_cons (pe_int) (pa_cons (pe_op op_add (pv 5) (pe_int)) (pa_nil)))) (blkOk_by (N := N_count_L) (sc := defScope s_count_L) (by decide +kernel)) (fun _ _ _ _ _ => pg_name (i := 7) sc_count_L.nd rfl (Or.inl rfl)) (fun _ _ _ _ _ => pts_one (pt_cmpR op_eq (pe_fn F_shared_L hr (by decide) rfl (pa_cons (pv 7) (pa_cons (pv 5) (pa_nil)))) (pe_int) (nomark _))) (fun _ _ _ _ _ => pv 7))))
    (pss_one (ps_set (i := 2) sc_count_L.nd rfl (Or.inl rfl) (pe_op op_add (pv 2) (pe_op op_mul (pv 6) (pe_fn F_many_L hr (by decide) rfl (pa_cons (pe_lcS (own := [("_law_own", 4)]) rfl sc_count_L.nd (k_tup K (pv 0)) (blkOk_by (N := N_count_L) (sc := defScope s_count_L) (by decide +kernel)) (fun _ _ _ _ _ => pg_name (i := 4) sc_count_L.nd rfl (Or.inl rfl)) (fun _ _ _ _ _ => pts_nil) (fun _ _ _ _ _ => pe_op op_fdiv (pv 4) (pv 5))) (pa_nil)))))))) (pss_nil))))
    (pss_one (ps_ret (pe_op op_fdiv (pv 2) (pv 3)))))), ?_⟩
  obtain ⟨hl, hn, hs, ht0, ht1⟩ := okCount_of hk
  let pre (i : Nat) : Nat := (ns.take i).foldl (fun a n => Nat.gcd a n.toNat) 0
  refine ⟨_, rfl, a, ns, rfl, SqT.of ha, _, _, _, rfl, ?_⟩
  refine ⟨_, rfl, a, rfl, ⟨_, SqT.of ha⟩, _, _, _, fun i σ Hc => ∃ y, σ = [some (.ref a), some (.int (pre i : Nat)), some (.int 0), some (.int ns.sum), y, none, none, none] ∧ Same H Hc, src_tupI, ⟨none, rfl, Same.refl _⟩, fun i σ Hc ⟨_, _, g⟩ => SqT.of (g _ _ ha), ?_, ?_⟩
  · rintro i _ H1 H2 hi ⟨y, rfl, g1⟩ e
    have hx := hn _ (getD_mem hi)
    have ev := Int.toNat_of_nonneg hx.1
    refine ⟨_, rfl, _, rfl, _, _, rfl, pre i, (ns.getD i 0).toNat, rfl, congrArg V.int ev.symm, fun H3 g3 => ⟨some (.int (ns.getD i 0)), ?_, g1.trans (e.trans g3)⟩⟩
    have es : pre (i + 1) = Nat.gcd (pre i) (ns.getD i 0).toNat := fold_take (fun a (n : Int) => Nat.gcd a n.toNat) _ 0 hi
    rw [es]
    rfl
  rintro _ H1 ⟨y, rfl, g1⟩
  have ep : pre ns.length = shareN ns := by
    show (ns.take ns.length).foldl _ 0 = _
    rw [List.take_length]
    rfl
  rw [ep]
  refine ⟨_, rfl, _, _, rfl, rfl, _, _, rfl, ⟨by decide, by decide, by omega, by omega⟩, fun _ => True, ((shareN ns : Int) + 1 - 1).toNat, _, fun i σ Hc => ∃ y z w, σ = [some (.ref a), some (.int (shareN ns : Nat)), some (.int ((List.range i).foldl (stepC ns) 0)), some (.int ns.sum), y, z, w, none] ∧ Same H Hc,
    src_rng, ⟨y, none, none, rfl, g1⟩, fun _ _ _ _ => True.intro, ?_, ?_⟩
  · rintro i _ H2 H3 hi ⟨y, z, w, rfl, g2⟩ e
    have g3 := g2.trans e
    have ha3 := g3 _ _ ha
    have es : (List.range (i + 1)).foldl (stepC ns) 0 = stepC ns ((List.range i).foldl (stepC ns) 0) i := by
      rw [List.range_succ, List.foldl_append]
      rfl
    refine ⟨_, rfl, _, rfl, _, _, rfl, rfl, (by show (0 : Int) < _; omega), rfl, _, rfl, iteB (fun hc => ?_) (fun hc => ?_)⟩
    · have hc : (shareN ns : Int) % (1 + (i : Int)) = 0 := V.int.inj (of_decide_eq_true hc)
      refine ⟨_, rfl, _, _, rfl, rfl, _, _, rfl, ⟨by decide, by decide, by omega, by omega⟩, Int, rI, _, _, _, fun n => if decide (V.int ((Nat.gcd (1 + n) (1 + (i : Int)).toNat : Nat) : Int) = V.int 1) = true then some (1 + (n : Int)) else none, src_rng, by omega, fun _ _ => True.intro, fun n hn => rfl,
        fun n hn H' g Q' q' => ?_, .inr ⟨km_I, fun n b hn hb H' g Q' q' => ⟨_, rfl, q' _ _ (Same.refl _) (congrArg V.int (if_some hb).symm)⟩⟩, fun D ys H4 hD g4 hY _ hp => ?_⟩
      · exact ⟨_, rfl, _, rfl, _, _, rfl, 1 + n, (1 + (i : Int)).toNat, congrArg V.int (by omega), congrArg V.int (by omega), fun H2 g2 => ⟨rfl, _, rfl, ifs_some.mp (q' H2 g2)⟩⟩
      rw [fm_ifg] at hp
      have hlen : goodM (1 + (i : Int)) = ys.length := by
        rw [paired_len hp, List.length_map]
        rfl
      have hg : goodM (1 + (i : Int)) ≤ 2000 := by
        have := List.length_filter_le (fun n => decide (V.int ((Nat.gcd (1 + n) (1 + (i : Int)).toNat : Nat) : Int) = V.int 1)) (List.range (1 + (i : Int) + 1 - 1).toNat)
        rw [List.length_range] at this
        unfold goodM
        omega
      refine ⟨D, ys, goodM (1 + (i : Int)), rfl, .inl (SqL.of hY), hlen, ?_⟩
      have ha4 := g4 _ _ ha3
      refine ⟨_, rfl, _, rfl, _, rfl, a, rfl, ⟨_, SqT.of ha4⟩, Int, rI, _, _, _, fun j => some (ns.getD j 0 / (1 + (i : Int))), src_tupI, by omega, fun H' g => SqT.of (g _ _ ha4), fun j hj => rfl,
        fun j hj H' g Q' q' => q' H' (Same.refl _), .inr ⟨km_I, fun j b hj hb H' g Q' q' => ?_⟩, fun E zs H5 hE g5 hZ _ hp5 => ?_⟩
      · exact ⟨_, rfl, _, rfl, _, _, rfl, rfl, ⟨by omega, by omega⟩, q' _ _ (Same.refl _) (congrArg V.int (Option.some.inj hb))⟩
      rw [fm_all ns 0 (fun n => some (n / (1 + (i : Int)))), fm_some] at hp5
      rw [paired_I hp5] at hZ
      refine ⟨_, rfl, ns.map (fun n => n / (1 + (i : Int))), ⟨E, rfl, hZ⟩, by rw [List.length_map]; exact hl, fun n hm => ?_, fun H6 g6 => ?_⟩
      · obtain ⟨x, hx, rfl⟩ := List.mem_map.mp hm
        obtain ⟨x0, x1⟩ := hn x hx
        have h1 := Int.ediv_nonneg x0 (show (0 : Int) ≤ 1 + (i : Int) by omega)
        have h2 := Int.ediv_le_self (1 + (i : Int)) x0
        omega
      · refine ⟨_, _, rfl, rfl, .inl ⟨by omega, by omega⟩, _, _, rfl, rfl, y, some (.int (1 + (i : Int))), some (.int (goodM (1 + (i : Int)) : Nat)), ?_, g3.trans (g4.trans (g5.trans g6))⟩
        rw [es]
        unfold stepC
        rw [if_pos hc]
        rfl
    · have hc : ¬ (shareN ns : Int) % (1 + (i : Int)) = 0 := fun z => (of_decide_eq_false hc) (congrArg V.int z)
      refine ⟨y, some (.int (1 + (i : Int))), w, ?_, g3⟩
      rw [es]
      unfold stepC
      rw [if_neg hc]
      rfl
  · rintro _ H2 ⟨y, z, w, rfl, g2⟩
    exact ⟨_, rfl, _, rfl, _, _, rfl, rfl, ⟨ht0, Int.lt_trans ht1 (by decide)⟩, q _ g2⟩
end Rw

namespace Rw
open PySem PySem.Spec PyProof.Rows L2 Mth

/-! ### the law's own rows -/
/-- a list of pairs, walked, each taken apart -/
theorem src_lstP {K : PySem.W.Frag} {a : Addr} {xs us vs : List V} {j1 j2 : Nat} : Src (Itl K a) (gTup K 2 (gCons (gName j1) (gCons (gName j2) gNil)))
    (fun H => SqL K H a xs ∧ ∀ i, i < xs.length → ∃ t, xs.getD i .non = .ref t ∧ SqT K H t [us.getD i .non, vs.getD i .non]) xs.length (fun i σ => (σ.set j1 (some (us.getD i .non))).set j2 (some (vs.getD i .non))) where
  go := fun i H h hi => ⟨xs, xs[i], h.1, List.getElem?_eq_getElem hi⟩
  yl := fun i H x H' σ k h hi y q => by
    obtain ⟨e, y⟩ := y
    subst e
    obtain ⟨t, et, ht⟩ := h.2 i hi
    have ex := getD_of (d := V.non) (y xs h.1)
    exact ⟨t, _, ex.symm.trans et, ht, rfl, _, _, rfl, _, _, rfl, rfl, q _ (Same.refl _)⟩
  st := fun H h => ⟨xs, h.1, Nat.le_refl _⟩
/-- a row begun and what is left of the numbers -/
def PR (H : Hp) (v : V) (p : List Int × List Int) : Prop := ∃ t x y, v = .ref t ∧ H t = some (.tup [x, y]) ∧ TI H x p.1 ∧ TI H y p.2
theorem PR.kp {H H' : Hp} {v : V} {p : List Int × List Int} (h : PR H v p) (e : Kp H H') : PR H' v p := by
  obtain ⟨t, x, y, h1, h2, h3, h4⟩ := h
  exact ⟨t, x, y, h1, e _ _ h2, h3.kp e, h4.kp e⟩
theorem split_pr {H : Hp} : ∀ {xs : List V} {ps : List (List Int × List Int)}, Paired (PR H) xs ps → ∃ us vs : List V, ∀ i, i < ps.length → (∃ t, xs.getD i .non = .ref t ∧ H t = some (.tup [us.getD i .non, vs.getD i .non])) ∧ TI H (us.getD i .non) (ps.getD i ([], [])).1 ∧ TI H (vs.getD i .non) (ps.getD i ([], [])).2
  | _, _, .nil => ⟨[], [], fun i h => absurd h (Nat.not_lt_zero _)⟩
  | _, _, .cons h t => by
    obtain ⟨us, vs, q⟩ := split_pr t
    obtain ⟨a, u, v, h1, h2, h3, h4⟩ := h
    refine ⟨u :: us, v :: vs, fun i hi => ?_⟩
    cases i with
    | zero => exact ⟨⟨a, h1, h2⟩, h3, h4⟩
    | succ i => exact q i (by rw [List.length_cons] at hi; omega)
def decM (rest : List Int) (k : Nat) : List Int := rest.take k ++ [rest.getD k 0 - 1] ++ rest.drop (k + 1)
def lextM (n : Nat) (p : List Int × List Int) : List (List Int × List Int) := (List.range n).filterMap fun (k : Nat) => if decide (0 < p.2.getD k 0) = true then some (p.1 ++ [(k : Int)], decM p.2 k) else none
def llevM (ns : List Int) : Nat → List (List Int × List Int)
  | 0 => [([], ns)]
  | i + 1 => (llevM ns i).flatMap (lextM ns.length)
def belowM (own : List Int) : List Int := (List.range own.length).filterMap fun (k : Nat) => if HT.lexLt (own.drop k ++ own.take k) own = true then some (1 : Int) else none
def lkeepM (p : List Int × List Int) : Option (List Int) := if decide (belowM p.1 = []) = true then some p.1 else none
def lrowsM (ns : List Int) : List (List Int) := (llevM ns ns.sum.toNat).filterMap lkeepM
def upM : List (List Int) → Bool
  | [] => true
  | r :: rs => rs.all (fun s => decide (TS.code 100 r < TS.code 100 s)) && upM rs
def okLRows (ns : List Int) : Bool := decide (ns ≠ []) && decide (ns.length < 100) && decide (1 ≤ ns.sum) && decide (ns.sum < 100) && (List.range (ns.sum.toNat + 1)).all (fun i => decide ((llevM ns i).length ≤ 1000)) &&
  decide ((lrowsM ns).length < 64) && (lrowsM ns).all (fun r => r.all fun m => decide (0 ≤ m) && decide (m < 100)) && upM (lrowsM ns)
structure OkLRows (ns : List Int) : Prop where
  ne : ns ≠ []
  len : ns.length < 100
  s0 : 1 ≤ ns.sum
  s1 : ns.sum < 100
  lev : ∀ i, i ≤ ns.sum.toNat → (llevM ns i).length ≤ 1000
  few : (lrowsM ns).length < 64
  bd : ∀ r ∈ lrowsM ns, TS.Bd 100 r
  up : upM (lrowsM ns) = true
theorem okLRows_of {ns : List Int} (h : okLRows ns = true) : OkLRows ns := by
  unfold okLRows at h
  simp only [Bool.and_eq_true, List.all_eq_true, decide_eq_true_eq, List.mem_range] at h
  obtain ⟨⟨⟨⟨⟨⟨⟨a, b⟩, c⟩, d⟩, e⟩, f⟩, g⟩, i⟩ := h
  exact ⟨a, b, c, d, fun i hi => e i (by omega), f, fun r hr m hm => g r hr m hm, i⟩
theorem dec_len {rest : List Int} {k : Nat} (h : k < rest.length) : (decM rest k).length = rest.length := by
  unfold decM
  rw [List.length_append, List.length_append, List.length_take, List.length_drop]
  show min k rest.length + 1 + (rest.length - (k + 1)) = _
  omega
theorem llev_len (ns : List Int) : ∀ i, ∀ p ∈ llevM ns i, p.1.length = i ∧ p.2.length = ns.length
  | 0, p, h => by rw [List.mem_singleton.mp h]; exact ⟨rfl, rfl⟩
  | i + 1, p, h => by
    obtain ⟨q, h1, h2⟩ := List.mem_flatMap.mp h
    obtain ⟨l1, l2⟩ := llev_len ns i q h1
    obtain ⟨k, hk, e⟩ := List.mem_filterMap.mp h2
    rw [if_some e]
    refine ⟨?_, ?_⟩
    · rw [List.length_append, l1]
      rfl
    · rw [dec_len (by rw [l2]; exact List.mem_range.mp hk), l2]
theorem fm_take {α β : Type} (f : α → Option β) (d : α) {l : List α} {j : Nat} (h : j < l.length) : (l.take (j + 1)).filterMap f = (l.take j).filterMap f ++ (f (l.getD j d)).toList := by
  rw [List.take_succ, List.getElem?_eq_getElem h, List.filterMap_append, getD_of (List.getElem?_eq_getElem h)]
  have e : List.filterMap f (some l[j]).toList = (f l[j]).toList := by
    show List.filterMap f [l[j]] = _
    rw [List.filterMap_cons]
    cases f l[j] <;> rfl
  rw [e]
/-- sorted already: what sorts it changes nothing -/
theorem sorted_same {α : Type} {S W : α → α → Prop} (hSW : ∀ x y, S x y → ¬ W y x) : ∀ {xs ys : List α}, xs.Pairwise S → ys.Perm xs → ys.Pairwise W → ys = xs
  | [], ys, _, p, _ => p.eq_nil
  | x :: xs, [], _, p, _ => absurd p.symm.eq_nil (by simp)
  | x :: xs, y :: ys, hS, p, hW => by
    have hS' := List.pairwise_cons.mp hS
    have hW' := List.pairwise_cons.mp hW
    have hy : y ∈ x :: xs := p.mem_iff.mp List.mem_cons_self
    have hx : x ∈ y :: ys := p.mem_iff.mpr List.mem_cons_self
    have e : y = x := by
      rcases List.mem_cons.mp hy with e | hy
      · exact e
      · rcases List.mem_cons.mp hx with e | hx
        · exact e.symm
        · exact absurd (hW'.1 x hx) (hSW x y (hS'.1 y hy))
    subst e
    rw [sorted_same hSW hS'.2 p.cons_inv hW'.2]
theorem up_pair : ∀ {rs : List (List Int)}, upM rs = true → rs.Pairwise fun a b => TS.code 100 a < TS.code 100 b
  | [], _ => .nil
  | r :: rs, h => by
    have h' : rs.all (fun s => decide (TS.code 100 r < TS.code 100 s)) = true ∧ upM rs = true := by simpa [upM] using h
    refine .cons (fun s hs => ?_) (up_pair h'.2)
    exact of_decide_eq_true (List.all_eq_true.mp h'.1 s hs)
theorem paired_pw {α β : Type} {R : α → β → Prop} {S : α → α → Prop} {T : β → β → Prop} (h : ∀ a b a' b', R a b → R a' b' → T b b' → S a a') : ∀ {xs : List α} {ys : List β}, Paired R xs ys → ys.Pairwise T → xs.Pairwise S
  | _, _, .nil, _ => .nil
  | _, _, .cons r t, p => by
    have p' := List.pairwise_cons.mp p
    refine .cons (fun a' ha' => ?_) (paired_pw h t p'.2)
    obtain ⟨i, hi, e⟩ := List.getElem_of_mem ha'
    obtain ⟨b, hb, rb⟩ := paired_get' t i a' (by rw [List.getElem?_eq_getElem hi, e])
    exact h _ _ _ _ r rb (p'.1 b (List.mem_of_getElem? hb))
theorem TI.tupI {K : PySem.W.Frag} {H : Hp} {v : V} {ns : List Int} (h : TI H v ns) : TupI K H v ns := by
  obtain ⟨a, e, ha⟩ := h
  exact ⟨a, e, SqT.of ha⟩
theorem lrows_len {ns r : List Int} (h : r ∈ lrowsM ns) : r.length = ns.sum.toNat := by
  obtain ⟨p, hp, e⟩ := List.mem_filterMap.mp h
  unfold lkeepM at e
  rw [if_some e]
  exact (llev_len ns _ p hp).1
theorem eqvL_nil (ns : List Int) : PyData.eqv (.list (ns.map PyData.int)) (.list []) = decide (ns = []) := by
  simp only [PyData.eqv]
  exact eqvAll_ints ns []
def sp_rows_of_L : Sp := fun vs H Q _ => ∃ v1, vs = [v1] ∧ ∃ (ns : List Int), TI H v1 ns ∧ okLRows ns = true ∧ ∀ v H', Same H H' → LL TI H' v (lrowsM ns) → Q v H'
abbrev N_rows_of_L : List Str := ["_law_many_so", "_law_left_so", "_law_lap", "_law_longer_so", "_law_own", "_law_rest_so", "_law_k", "_law_found"]
abbrev s_rows_of_L : Stmt := topS 53
theorem sc_rows_of_L : FnScope N_rows_of_L ["_law_many_so"] (defScope s_rows_of_L) := ⟨rfl, rfl, rfl, by decide +kernel, rfl, by decide +kernel, by decide +kernel⟩
theorem ok_rows_of_L {P : Program} {w : World} {K : PySem.W.Frag} {mg : Str → Option Value} {base : Heap} (Tt : Tx K mg "_law_rows_of" s_rows_of_L ["_law_many_so"]) (Bt : Bi mg) :
    Fd P w K mg base "_law_rows_of" 1 1 sp_rows_of_L := by
  refine Tt.ok sc_rows_of_L (fun vs H Q E h => ?_) (fun f cdv A outer s H vs Q E hr h => ?_)
  · obtain ⟨_, rfl, _⟩ := h
    rfl
  obtain ⟨_, rfl, ns, ⟨a, rfl, ha⟩, hk, q⟩ := h
  refine ⟨_, pss_cons (ps_set (i := 1) sc_rows_of_L.nd rfl (Or.inl rfl) (pe_lst (pa_cons (pe_tup (pa_cons (pe_tup (pa_nil)) (pa_cons (e_tuple K Bt (pv 0)) (pa_nil)))) (pa_nil))))
    (pss_cons (ps_forS PassesOwn.never rfl (pi_range1 rfl Bt.range (pa_cons (e_sumT K Bt (pv 0)) (pa_nil))) (pg_name (i := 2) sc_rows_of_L.nd rfl (Or.inl rfl)) (pss_cons (ps_set (i := 3) sc_rows_of_L.nd rfl (Or.inl rfl) (pe_lst (pa_nil)))
    (pss_cons (ps_forS PassesOwn.never rfl (k_list K (pv 1)) (k_tg K 2 rfl (pgs_cons (pg_name (i := 4) sc_rows_of_L.nd rfl (Or.inr rfl)) (pgs_cons (pg_name (i := 5) sc_rows_of_L.nd rfl (Or.inl rfl)) (pgs_nil)))) (pss_one (ps_forS PassesOwn.never rfl (pi_range1 rfl Bt.range (pa_cons (e_len K Bt (pv 0)) (pa_nil))) (pg_name (i := 6) sc_rows_of_L.nd rfl (Or.inl rfl)) (pss_one (ps_if (pt_cmpR op_gt (pe_ix (k_ixT K) (pv 5) (pv 6) (fun _ _ => rfl)) (pe_int) (nomark _)) (pss_one (ps_expr (k_bm K PySem.F.plainAttrs_list PySem.F.slot_list_append PySem.F.type_list_append mt_append (pv 3) (pa_cons (pe_tup (pa_cons (pe_op (k_catT K) (pv 4) (pe_tup (pa_cons (pv 6) (pa_nil)))) (pa_cons (pe_op (k_catT K) (pe_op (k_catT K) (pe_slice (k_slT K) (pv 5) (po_none) (po_some (pv 6))) (pe_tup (pa_cons (pe_op op_sub (pe_ix (k_ixT K) (pv 5) (pv 6) (fun _ _ => rfl)) (pe_int)) (pa_nil)))) (pe_slice (k_slT K) (pv 5) (po_some (pe_op op_add (pv 6) (pe_int))) (po_none))) (pa_nil)))) (pa_nil))))) (pss_nil))))))
    (pss_one (ps_set (i := 1) sc_rows_of_L.nd rfl (Or.inl rfl) (pv 3))))))
    (pss_cons (ps_set (i := 7) sc_rows_of_L.nd rfl (Or.inl rfl) (pe_lst (pa_nil)))
    (pss_cons (ps_forS PassesOwn.never rfl (k_list K (pv 1)) (k_tg K 2 rfl (pgs_cons (pg_name (i := 4) sc_rows_of_L.nd rfl (Or.inr rfl)) (pgs_cons (pg_name (i := 5) sc_rows_of_L.nd rfl (Or.inl rfl)) (pgs_nil)))) (pss_one (ps_if (pt_cmpR (k_eqD K hr) (pe_lcS (own := [("_law_k", 6)]) rfl sc_rows_of_L.nd (pi_range1 rfl Bt.range (pa_cons (e_len K Bt (pv 4)) (pa_nil))) (blkOk_by (N := N_rows_of_L) (sc := defScope s_rows_of_L) (by decide +kernel)) (fun _ _ _ _ _ => pg_name (i := 6) sc_rows_of_L.nd rfl (Or.inl rfl)) (fun _ _ _ _ _ => pts_one (pt_cmpR (k_ltT K hr) (pe_op (k_catT K) (pe_slice (k_slT K) (pv 4) (po_some (pv 6)) (po_none)) (pe_slice (k_slT K) (pv 4) (po_none) (po_some (pv 6)))) (pv 4) (nomark _))) (fun _ _ _ _ _ => pe_int)) (pe_lst (pa_nil)) (nomark _)) (pss_one (ps_expr (k_bm K PySem.F.plainAttrs_list PySem.F.slot_list_append PySem.F.type_list_append mt_append (pv 7) (pa_cons (pv 4) (pa_nil))))) (pss_nil))))
    (pss_one (ps_ret (e_sortR K Bt (pv 7))))))), ?_⟩
  have M := okLRows_of hk
  have hl := M.len
  have s0 := M.s0
  have s1 := M.s1
  have hne := M.ne
  have hpos := pos_of_ne hne
  refine ⟨Nat.zero_le _, fun p0 h0 => ?_⟩
  have g0 := same_new h0 (.tup [])
  refine ⟨_, rfl, a, _, rfl, .inr ⟨SqT.of (g0 _ _ ha), (by show 2 ≤ sizeLine; decide), fun p1 h1 => ?_⟩⟩
  have g1 := g0.trans (same_new h1 (.tup [.ref p0, .ref a]))
  refine ⟨(by show 1 ≤ sizeLine; decide), fun F hF => ?_⟩
  have g2 := g1.trans (same_new hF (.lst [.ref p1]))
  have g2' := same_new hF (.lst [.ref p1])
  refine ⟨_, rfl, a, ns, rfl, SqT.of (g2 _ _ ha), _, rfl, by omega, by omega, fun _ => True, ns.sum.toNat, _, fun i σ Hc => ∃ F ps s2 s3 s4 s5 s6, σ = [some (.ref a), some (.ref F), s2, s3, s4, s5, s6, none] ∧ Same H Hc ∧ H F = none ∧ Hc F = some (.lst ps) ∧ Paired (PR Hc) ps (llevM ns i),
    src_rng0 (n := ns.sum.toNat), ⟨F, _, none, none, none, none, none, rfl, g2, g1.free hF, upd_same, .cons ⟨p1, .ref p0, .ref a, rfl, g2' _ _ upd_same, ⟨p0, rfl, g2' _ _ (same_new h1 _ _ _ upd_same)⟩, ⟨a, rfl, g2 _ _ ha⟩⟩ .nil⟩, fun _ _ _ _ => True.intro, ?_, ?_⟩
  · clear g0 g1 g2 g2' hF h1 h0
    clear F p1 p0
    rintro i _ H2 H3 hi ⟨F, ps, s2, s3, s4, s5, s6, rfl, g3, hFH, hF3, hp3⟩ e
    refine ⟨Nat.zero_le _, fun L hL => ?_⟩
    have g4 := g3.trans e
    have hLH := g4.free hL
    have hF4 := e _ _ hF3
    have hp4 := paired_mono (fun v b (h : PR H2 v b) => h.kp (Kp.of e)) hp3
    have hyl := paired_len hp4
    have lev2 := M.lev (i + 1) (by omega)
    have lev1 := M.lev i (by omega)
    have eL : Same H3 (upd H3 L (.lst [])) := same_new hL _
    obtain ⟨us, vs, hq⟩ := split_pr hp4
    refine ⟨_, rfl, F, rfl, ⟨_, SqL.of (eL _ _ hF4)⟩, _, _, _, fun j σ Hc => ∃ zs s4 s5 s6, σ = [some (.ref a), some (.ref F), some (.int (i : Nat)), some (.ref L), s4, s5, s6, none] ∧ Same H Hc ∧ Kp H3 Hc ∧ Hc F = some (.lst ps) ∧ Hc L = some (.lst zs) ∧ Paired (PR Hc) zs (((llevM ns i).take j).flatMap (lextM ns.length)),
      src_lstP (xs := ps) (us := us) (vs := vs), ⟨[], s4, s5, s6, rfl, g4.trans eL, Kp.of eL, eL _ _ hF4, upd_same, .nil⟩, ?_, ?_, ?_⟩
    · rintro j σ Hc ⟨_, _, _, _, _, _, gk, hFc, _⟩
      refine ⟨SqL.of hFc, fun x hx => ?_⟩
      obtain ⟨⟨t, et, ht⟩, _⟩ := hq x (by omega)
      exact ⟨t, et, SqT.of (gk _ _ ht)⟩
    · rintro j _ H5 H6 hj ⟨zs, s4, s5, s6, rfl, g5, gk, hF5, hL5, hz5⟩ e5
      rw [hyl] at hj
      obtain ⟨_, to, tr⟩ := hq j hj
      have mj : (llevM ns i).getD j ([], []) ∈ llevM ns i := by
        rw [getD_of (List.getElem?_eq_getElem hj)]
        exact List.getElem_mem hj
      obtain ⟨ol, rl⟩ := llev_len ns i _ mj
      generalize hpp : (llevM ns i).getD j ([], []) = pp at to tr mj ol rl
      obtain ⟨own, rest⟩ := pp
      replace to : TI H3 (us.getD j .non) own := to
      replace tr : TI H3 (vs.getD j .non) rest := tr
      replace ol : own.length = i := ol
      replace rl : rest.length = ns.length := rl
      have ha6 := e5 _ _ (g5 _ _ ha)
      have eT := flatMap_take (lextM ns.length) ([], []) hj
      rw [hpp] at eT
      have hbase : (((llevM ns i).take j).flatMap (lextM ns.length)).length ≤ 1000 := Nat.le_trans (flatMap_le _ _ j) lev2
      let f : Nat → Option (List Int × List Int) := fun k => if decide (0 < rest.getD k 0) = true then some (own ++ [(k : Int)], decM rest k) else none
      refine ⟨_, rfl, a, _, _, rfl, .inr (SqT.of ha6), len_int, _, rfl, by omega, by omega, fun _ => True, ns.length, _, fun k σ Hc => ∃ zs s6, σ = [some (.ref a), some (.ref F), some (.int (i : Nat)), some (.ref L), some (us.getD j .non), some (vs.getD j .non), s6, none] ∧ Same H Hc ∧ Kp H3 Hc ∧ Hc F = some (.lst ps) ∧ Hc L = some (.lst zs) ∧ Paired (PR Hc) zs (((llevM ns i).take j).flatMap (lextM ns.length) ++ (List.range k).filterMap f),
        src_rng0 (n := ns.length), ⟨zs, s6, rfl, g5.trans e5, gk.trans (Kp.of e5), e5 _ _ hF5, e5 _ _ hL5, ?_⟩, fun _ _ _ _ => True.intro, ?_, ?_⟩
      · show Paired _ zs (_ ++ [])
        rw [List.append_nil]
        exact paired_mono (fun v b (h : PR H5 v b) => h.kp (Kp.of e5)) hz5
      · clear hz5 hL5 hF5 gk g5 ha6 e5
        rintro k _ H7 H8 hk ⟨zs, s6, rfl, g7, gk, hF7, hL7, hz7⟩ e7
        have g8 := g7.trans e7
        have gk8 := gk.trans (Kp.of e7)
        have hL8 := e7 _ _ hL7
        have hF8 := e7 _ _ hF7
        have hz8 := paired_mono (fun v b (h : PR H7 v b) => h.kp (Kp.of e7)) hz7
        have to8 := to.kp gk8
        have tr8 := tr.kp gk8
        obtain ⟨t5, e5, h5⟩ := id tr8
        have hzl := paired_len hz8
        rw [List.length_append] at hzl
        have hfl := List.length_filterMap_le f (List.range k)
        rw [List.length_range] at hfl
        have esucc : (List.range (k + 1)).filterMap f = (List.range k).filterMap f ++ (f k).toList := by
          have e : List.filterMap f [k] = (f k).toList := by
            rw [List.filterMap_cons]
            cases f k <;> rfl
          rw [List.range_succ, List.filterMap_append, e]
        refine ⟨_, rfl, _, rfl, t5, _, _, _, e5, rfl, SqT.of h5, atI_int (i := (k : Int)) (by omega) (by omega), _, _, rfl, rfl, _, rfl, ?_⟩
        refine iteB (fun hc => ?_) (fun hc => ?_)
        · have hc : decide (0 < rest.getD k 0) = true := hc
          have ef : f k = some (own ++ [(k : Int)], decM rest k) := if_pos hc
          refine ⟨_, rfl, ty_lst hL8, _, rfl, _, rfl, (by show 1 ≤ sizeLine; decide), fun p9 h9 => ?_⟩
          have e9 := same_new h9 (.tup [.int (k : Int)])
          refine cat_tv (to8.sm e9).tv ⟨p9, rfl, upd_same⟩ (by rw [List.length_map]; show own.length + 1 ≤ _; omega) fun v1 H9 g9 t9 => ?_
          have e10 := e9.trans g9
          refine ⟨_, rfl, _, rfl, _, rfl, ?_⟩
          refine sl_upto (k := k) (tr8.sm e10).tv rfl (by rw [List.length_map]; omega) fun v2 H10 g10 t10 => ?_
          have e11 := e10.trans g10
          refine ⟨_, rfl, _, rfl, t5, _, _, _, e5, rfl, SqT.of (e11 _ _ h5), atI_int (i := (k : Int)) (by omega) (by omega), _, _, rfl, rfl, (by show 1 ≤ sizeLine; decide), fun p12 h12 => ?_⟩
          have e12 := same_new h12 (.tup [.int (rest.getD (k : Int).toNat 0 - 1)])
          refine cat_tv (t10.sm e12) ⟨p12, rfl, upd_same⟩ (by rw [List.length_take, List.length_map]; show _ + 1 ≤ _; omega) fun v3 H13 g13 t13 => ?_
          have e14 := e11.trans (e12.trans g13)
          refine ⟨_, rfl, _, rfl, _, _, rfl, rfl, _, rfl, ?_⟩
          refine sl_from (k := k + 1) (tr8.sm e14).tv rfl (by rw [List.length_map]; omega) fun v4 H14 g14 t14 => ?_
          refine cat_tv (t13.sm g14) t14 (by rw [List.length_append, List.length_take, List.length_drop, List.length_map]; show _ + 1 + _ ≤ _; omega) fun v5 H15 g15 t15 => ?_
          have e15 := e14.trans (g14.trans g15)
          refine ⟨(by show 2 ≤ sizeLine; decide), fun p16 h16 => ?_⟩
          have e16 := e15.trans (same_new h16 (.tup [v1, v5]))
          have e16' := same_new h16 (.tup [v1, v5])
          have hL16 := e16 _ _ hL8
          refine ⟨L, _, _, rfl, rfl, hL16, ?_, zs ++ [.ref p16], some (.int (k : Nat)), rfl, same_mut (g8.trans e16) hLH _, ?_, ?_, upd_same, ?_⟩
          · rw [sizeLine_eq]
            omega
          · exact (gk8.trans (Kp.of e16)).trans (Kp.lst hL16)
          · rw [upd_ne (fun z => by rw [z, hL] at hF4; cases hF4)]
            exact e16 _ _ hF8
          · rw [esucc, ef, ← List.append_assoc]
            refine paired_appR (paired_mono (fun v b (h : PR H8 v b) => h.kp ((Kp.of e16).trans (Kp.lst hL16))) hz8) (.cons (PR.kp ⟨p16, v1, v5, rfl, upd_same, ?_, ?_⟩ (Kp.lst hL16)) .nil)
            · have z := t9.sm ((g10.trans (e12.trans g13)).trans (g14.trans (g15.trans e16')))
              obtain ⟨w, ew, hw⟩ := z
              exact ⟨w, ew, by rw [hw, List.map_append]; rfl⟩
            · have z := t15.sm e16'
              obtain ⟨w, ew, hw⟩ := z
              refine ⟨w, ew, ?_⟩
              rw [hw]
              show _ = some (HO.tup ((rest.take k ++ [rest.getD k 0 - 1] ++ rest.drop (k + 1)).map V.int))
              rw [List.map_append, List.map_append, List.map_take, List.map_drop]
              rfl
        · have hc : decide (0 < rest.getD k 0) = false := hc
          have ef : f k = none := if_neg (by rw [hc]; exact Bool.false_ne_true)
          refine ⟨zs, some (.int (k : Nat)), rfl, g8, gk8, hF8, hL8, ?_⟩
          rw [esucc, ef]
          show Paired _ zs (_ ++ (_ ++ []))
          rw [List.append_nil]
          exact hz8
      · rintro _ H7 ⟨zs, s6, rfl, g7, gk, hF7, hL7, hz7⟩
        refine ⟨zs, _, _, s6, rfl, g7, gk, hF7, hL7, ?_⟩
        rw [eT]
        exact hz7
    · rintro _ H5 ⟨zs, s4, s5, s6, rfl, g5, gk, hF5, hL5, hz5⟩
      rw [hyl, List.take_length] at hz5
      exact ⟨_, rfl, L, zs, _, _, _, _, _, rfl, g5, hLH, hL5, hz5⟩
  · clear g0 g1 g2 g2' hF h1 h0
    clear F p1 p0
    rintro _ H2 ⟨F, ps, s2, s3, s4, s5, s6, rfl, g3, hFH, hF3, hp3⟩
    refine ⟨Nat.zero_le _, fun D hD => ?_⟩
    have hDH := g3.free hD
    have hyl := paired_len hp3
    have lev1 := M.lev ns.sum.toNat (Nat.le_refl _)
    have eD : Same H2 (upd H2 D (.lst [])) := same_new hD _
    obtain ⟨us, vs, hq⟩ := split_pr hp3
    refine ⟨_, rfl, F, rfl, ⟨_, SqL.of (eD _ _ hF3)⟩, _, _, _, fun j σ Hc => ∃ zs s4 s5, σ = [some (.ref a), some (.ref F), s2, s3, s4, s5, s6, some (.ref D)] ∧ Same H Hc ∧ Kp H2 Hc ∧ Hc F = some (.lst ps) ∧ Hc D = some (.lst zs) ∧ Paired (TI Hc) zs (((llevM ns ns.sum.toNat).take j).filterMap lkeepM),
      src_lstP (xs := ps) (us := us) (vs := vs), ⟨[], s4, s5, rfl, g3.trans eD, Kp.of eD, eD _ _ hF3, upd_same, .nil⟩, ?_, ?_, ?_⟩
    · rintro j σ Hc ⟨_, _, _, _, _, gk, hFc, _⟩
      refine ⟨SqL.of hFc, fun x hx => ?_⟩
      obtain ⟨⟨t, et, ht⟩, _⟩ := hq x (by omega)
      exact ⟨t, et, SqT.of (gk _ _ ht)⟩
    · rintro j _ H5 H6 hj ⟨zs, s4, s5, rfl, g5, gk, hF5, hD5, hz5⟩ e5
      rw [hyl] at hj
      obtain ⟨_, to, tr⟩ := hq j hj
      have mj : (llevM ns ns.sum.toNat).getD j ([], []) ∈ llevM ns ns.sum.toNat := by
        rw [getD_of (List.getElem?_eq_getElem hj)]
        exact List.getElem_mem hj
      obtain ⟨ol, rl⟩ := llev_len ns _ _ mj
      have eT := fm_take lkeepM ([], []) hj
      generalize hpp : (llevM ns ns.sum.toNat).getD j ([], []) = pp at to tr mj ol rl eT
      obtain ⟨own, rest⟩ := pp
      replace to : TI H2 (us.getD j .non) own := to
      replace ol : own.length = ns.sum.toNat := ol
      have g6 := g5.trans e5
      have gk6 := gk.trans (Kp.of e5)
      have to6 := to.kp gk6
      obtain ⟨t4, e4, h4⟩ := id to6
      have hD6 := e5 _ _ hD5
      have hz6 := paired_mono (fun v b (h : TI H5 v b) => h.sm e5) hz5
      refine ⟨_, rfl, t4, _, _, congrArg (fun z => [z]) e4, .inr (SqT.of h4), len_int, _, rfl, by omega, by omega, Int, rI, _, _, _, fun k => if HT.lexLt (own.drop k ++ own.take k) own = true then some (1 : Int) else none, src_rng0 (n := own.length), by omega, fun _ _ => True.intro, fun k hk => rfl,
        fun k hk H' g Q' q' => ?_, .inr ⟨km_I, fun k b hk hb H' g Q' q' => q' _ _ (Same.refl _) (congrArg V.int (if_some hb).symm)⟩, fun E ys H7 hE g7 hY _ hp7 => ?_⟩
      · have hkl : k ≤ (own.map V.int).length := by rw [List.length_map]; omega
        refine ⟨_, rfl, _, rfl, _, rfl, ?_⟩
        refine sl_from (k := k) (to6.sm g).tv rfl hkl fun v1 H8 g8 t8 => ?_
        refine ⟨_, rfl, _, rfl, _, rfl, ?_⟩
        refine sl_upto (k := k) (to6.sm (g.trans g8)).tv rfl hkl fun v2 H9 g9 t9 => ?_
        refine cat_tv (t8.sm g9) t9 (by rw [List.length_drop, List.length_take, List.length_map]; omega) fun v3 H10 g10 t10 => ?_
        obtain ⟨b3, rfl, hb3⟩ := t10
        rw [← List.map_drop, ← List.map_take, ← List.map_append] at hb3
        exact ⟨_, rfl, b3, t4, _, _, rfl, e4, SqT.of hb3, SqT.of (g10 _ _ (g9 _ _ (g8 _ _ (g _ _ h4)))), _, rfl, ifs_some.mp (q' H10 (g8.trans (g9.trans g10)))⟩
      refine ⟨Nat.zero_le _, fun E2 hE2 => ?_⟩
      have e7 := g7.trans (same_new hE2 (.lst []))
      have hY7 := same_new hE2 (.lst []) _ _ hY
      rw [paired_I hp7] at hY7
      refine ⟨.list ((belowM own).map PyData.int), .list [], .lst (SqL.of hY7) (dpAll_ints _), .lst (SqL.of upd_same) .nil, PySem.W.ke_shaped_ints _, PySem.W.ke_shaped_ints [], _, rfl, ?_⟩
      have hD7 := e7 _ _ hD6
      have hF7 := e7 _ _ (e5 _ _ hF5)
      have hz7 := paired_mono (fun v b (h : TI H6 v b) => h.sm e7) hz6
      have hzl := paired_len hz7
      have hfl := List.length_filterMap_le lkeepM ((llevM ns ns.sum.toNat).take j)
      rw [List.length_take] at hfl
      refine iteB (fun hc => ?_) (fun hc => ?_) <;> rw [eqvL_nil] at hc
      · have ef : lkeepM (own, rest) = some own := if_pos hc
        refine ⟨_, rfl, ty_lst hD7, _, rfl, D, _, _, rfl, rfl, hD7, ?_, zs ++ [us.getD j .non], some (us.getD j .non), some (vs.getD j .non), rfl, same_mut (g6.trans e7) hDH _, ?_, ?_, upd_same, ?_⟩
        · rw [sizeLine_eq]
          omega
        · exact (gk6.trans (Kp.of e7)).trans (Kp.lst hD7)
        · rw [upd_ne (fun z => by rw [z, hD] at hF3; cases hF3)]
          exact hF7
        · rw [eT, ef]
          exact paired_appR (paired_mono (fun v b h => h.kp (Kp.lst hD7)) hz7) (.cons ((to6.sm e7).kp (Kp.lst hD7)) .nil)
      · have ef : lkeepM (own, rest) = none := if_neg (by show ¬ decide (belowM own = []) = true; rw [hc]; exact Bool.false_ne_true)
        refine ⟨zs, some (us.getD j .non), some (vs.getD j .non), rfl, g6.trans e7, gk6.trans (Kp.of e7), hF7, hD7, ?_⟩
        rw [eT, ef]
        show Paired _ zs (_ ++ [])
        rw [List.append_nil]
        exact hz7
    · rintro _ H5 ⟨zs, s4, s5, rfl, g5, gk, hF5, hD5, hz5⟩
      rw [hyl, List.take_length] at hz5
      have hz5 : Paired (TI H5) zs (lrowsM ns) := hz5
      have hzl := paired_len hz5
      have few := M.few
      refine ⟨_, rfl, ns.sum.toNat, 100, by omega, D, zs, rfl, SqL.of hD5, by omega, fun x hx => ?_, fun ys p perm pw hp0 => ?_⟩
      · obtain ⟨i, hi, ex⟩ := List.getElem_of_mem hx
        obtain ⟨r, hr, rb⟩ := paired_get' hz5 i x (by rw [List.getElem?_eq_getElem hi, ex])
        have hm := List.mem_of_getElem? hr
        exact ⟨r, rb.tupI, lrows_len hm, M.bd r hm⟩
      · have es : ys = zs := sorted_same (S := fun x y => ∃ n m, TI H5 x n ∧ TI H5 y m ∧ TS.code 100 n < TS.code 100 m) (fun x y ⟨n, m, tn, tm, hlt⟩ hw => by
            have := hw m n tm.tupI tn.tupI
            omega) (paired_pw (fun x n y m tn tm hlt => ⟨n, m, tn, tm, hlt⟩) hz5 (up_pair M.up)) perm pw
        rw [es]
        have e := same_new hp0 (.lst zs)
        exact q _ _ (g5.trans e) ⟨p, zs, rfl, upd_same, paired_mono (fun v b h => h.sm e) hz5⟩
end Rw

namespace Rw
open PySem PySem.Spec PyProof.Rows L2 Mth

/-! ### the greatest, and the row told by the orbits -/
def aheadP (spots : List Int) (ring : Int) (i : Nat) : Int := nameM spots ring ((i : Int) - 1) + 1
structure GreatP (disk spots : List Int) (m ring : Int) : Prop where
  dn : disk ≠ []
  dl : disk.length < 1000
  sn : spots ≠ []
  sl : spots.length < 1000
  r0 : 0 < ring
  r1 : ring < 1000
  one : ∀ i, i < spots.length → ledM disk (spots.getD i 0) = nameM spots ring ((i : Int) + m)
  bd : ∀ i, i < spots.length → (-(2 ^ 62) ≤ aheadP spots ring i ∧ aheadP spots ring i < 2 ^ 62 ∧ -(2 ^ 62) ≤ spots.getD i 0 ∧ spots.getD i 0 < 2 ^ 62)
  all : ∀ i, i < spots.length → ∀ z : Nat, z < (spots.getD i 0 - aheadP spots ring i).toNat → ledM disk (aheadP spots ring i + (z : Int)) = ledM disk (spots.getD i 0)
def greatB (disk spots : List Int) (m ring : Int) : Bool := decide (disk ≠ []) && decide (disk.length < 1000) && decide (spots ≠ []) && decide (spots.length < 1000) && decide (0 < ring) && decide (ring < 1000) &&
  (List.range spots.length).all fun i => decide (ledM disk (spots.getD i 0) = nameM spots ring ((i : Int) + m)) &&
    (decide (-1000000 ≤ aheadP spots ring i) && decide (aheadP spots ring i < 1000000) && decide (-1000000 ≤ spots.getD i 0) && decide (spots.getD i 0 < 1000000)) &&
    (List.range (spots.getD i 0 - aheadP spots ring i).toNat).all fun z => decide (ledM disk (aheadP spots ring i + (z : Int)) = ledM disk (spots.getD i 0))
theorem greatP_of {disk spots : List Int} {m ring : Int} (h : greatB disk spots m ring = true) : GreatP disk spots m ring := by
  unfold greatB at h
  simp only [Bool.and_eq_true, List.all_eq_true, decide_eq_true_eq, List.mem_range] at h
  obtain ⟨⟨⟨⟨⟨⟨a, b⟩, c⟩, d⟩, e⟩, f⟩, g⟩ := h
  refine ⟨a, b, c, d, e, f, fun i hi => (g i hi).1.1, fun i hi => ?_, fun i hi z hz => (g i hi).2 z hz⟩
  obtain ⟨⟨_, ⟨⟨x, y⟩, z⟩, w⟩, _⟩ := g i hi
  exact ⟨Int.le_trans (by decide) x, Int.lt_trans y (by decide), Int.le_trans (by decide) z, Int.lt_trans w (by decide)⟩
def sp_is_greatest_L : Sp := fun vs H Q _ => ∃ v1 v2 v3 v4, vs = [v1, v2, v3, v4] ∧ ∃ (disk spots : List Int) (m ring : Int), TI H v1 disk ∧ TI H v2 spots ∧ v3 = .int m ∧ v4 = .int ring ∧ GreatP disk spots m ring ∧ ∀ H', Same H H' → Q (.bl true) H'
abbrev N_is_greatest_L : List Str := ["_law_disk_here", "_law_spots_so", "_law_m", "_law_ring_so", "_law_i", "_law_own", "_law_ahead_so", "_law_z"]
abbrev s_is_greatest_L : Stmt := topS 61
theorem sc_is_greatest_L : FnScope N_is_greatest_L ["_law_disk_here", "_law_spots_so", "_law_m", "_law_ring_so"] (defScope s_is_greatest_L) := ⟨rfl, rfl, rfl, by decide +kernel, rfl, by decide +kernel, by decide +kernel⟩
theorem ok_is_greatest_L {P : Program} {w : World} {K : PySem.W.Frag} {mg : Str → Option Value} {base : Heap} (Tt : Tx K mg "_law_is_greatest" s_is_greatest_L ["_law_disk_here", "_law_spots_so", "_law_m", "_law_ring_so"]) (Bt : Bi mg) (F_led_L : Fd P w K mg base "_law_led" 2 1 sp_led_L) (F_told_on_L : Fd P w K mg base "_law_told_on" 3 1 sp_told_on_L) :
    Fd P w K mg base "_law_is_greatest" 4 2 sp_is_greatest_L := by
  refine Tt.ok sc_is_greatest_L (fun vs H Q E h => ?_) (fun f cdv A outer s H vs Q E hr h => ?_)
  · obtain ⟨_, _, _, _, rfl, _⟩ := h
    rfl
  obtain ⟨v1, v2, _, _, rfl, disk, spots, m, ring, h1, h2, rfl, rfl, G, q⟩ := h
  refine ⟨_, pss_cons (ps_forS PassesOwn.never rfl (k_enum K Bt (pv 1)) (k_tg K 2 rfl (pgs_cons (pg_name (i := 4) sc_is_greatest_L.nd rfl (Or.inl rfl)) (pgs_cons (pg_name (i := 5) sc_is_greatest_L.nd rfl (Or.inl rfl)) (pgs_nil)))) (pss_cons (ps_if (pt_cmpR op_ne (pe_fn F_led_L hr (by decide) rfl (pa_cons (pv 0) (pa_cons (pv 5) (pa_nil)))) (pe_fn F_told_on_L hr (by decide) rfl (pa_cons (pv 1) (pa_cons (pv 3) (pa_cons (pe_op op_add (pv 4) (pv 2)) (pa_nil))))) (nomark _)) (pss_one (ps_ret (pe_bl))) (pss_nil))
    (pss_cons (ps_set (i := 6) sc_is_greatest_L.nd rfl (Or.inl rfl) (pe_fn F_told_on_L hr (by decide) rfl (pa_cons (pv 1) (pa_cons (pv 3) (pa_cons (pe_op op_sub (pv 4) (pe_int)) (pa_nil))))))
    (pss_one (ps_forS PassesOwn.never rfl (pi_range2 rfl Bt.range (pa_cons (pe_op op_add (pv 6) (pe_int)) (pa_cons (pv 5) (pa_nil)))) (pg_name (i := 7) sc_is_greatest_L.nd rfl (Or.inl rfl)) (pss_one (ps_if (pt_cmpR op_ne (pe_fn F_led_L hr (by decide) rfl (pa_cons (pv 0) (pa_cons (pv 7) (pa_nil)))) (pe_fn F_led_L hr (by decide) rfl (pa_cons (pv 0) (pa_cons (pv 5) (pa_nil)))) (nomark _)) (pss_one (ps_ret (pe_bl))) (pss_nil))))))))
    (pss_one (ps_ret (pe_bl))), ?_⟩
  obtain ⟨b, rfl, hb⟩ := id h2
  refine ⟨_, rfl, b, _, rfl, .inr ⟨SqT.of hb, _, _, _, fun i σ Hc => ∃ s4 s5 s6 s7, σ = [some v1, some (.ref b), some (.int m), some (.int ring), s4, s5, s6, s7] ∧ Same H Hc,
    src_enumTI, ⟨none, none, none, none, rfl, Same.refl _⟩, fun i σ Hc ⟨_, _, _, _, _, g⟩ => SqT.of (g _ _ hb), ?_, ?_⟩⟩
  · rintro i _ H1 H2 hi ⟨s4, s5, s6, s7, rfl, g1⟩ e
    have g2 := g1.trans e
    refine ⟨_, rfl, _, rfl, _, _, rfl, disk, spots.getD i 0, h1.sm g2, rfl, G.dn, G.dl, fun H3 g3 => ?_⟩
    have g4 := g2.trans g3
    refine ⟨_, rfl, _, rfl, _, rfl, _, rfl, _, _, rfl, rfl, _, _, _, rfl, spots, ring, (i : Int) + m, h2.sm g4, rfl, rfl, G.sn, G.sl, G.r0, G.r1, fun H4 g5 => ?_⟩
    have g6 := g4.trans g5
    refine ⟨rfl, _, rfl, iteB (fun hc => ?_) (fun _ => ?_)⟩
    · rw [G.one i hi, decide_eq_true rfl] at hc
      cases hc
    refine ⟨_, rfl, _, rfl, _, rfl, _, _, rfl, rfl, _, _, _, rfl, spots, ring, (i : Int) - 1, h2.sm g6, rfl, rfl, G.sn, G.sl, G.r0, G.r1, fun H5 g7 => ?_⟩
    have g8 := g6.trans g7
    refine ⟨_, rfl, _, _, rfl, rfl, _, rfl, _, _, rfl, G.bd i hi, fun _ => True, (spots.getD i 0 - aheadP spots ring i).toNat, _, fun k σ Hc => ∃ s6 s7, σ = [some v1, some (.ref b), some (.int m), some (.int ring), some (.int (i : Nat)), some (.int (spots.getD i 0)), s6, s7] ∧ Same H Hc,
      src_rng (lo := aheadP spots ring i), ⟨_, s7, rfl, g8⟩, fun _ _ _ _ => True.intro, ?_, ?_⟩
    · rintro z _ H6 H7 hz ⟨s6, s7, rfl, g9⟩ e9
      have g10 := g9.trans e9
      refine ⟨_, rfl, _, rfl, _, _, rfl, disk, aheadP spots ring i + (z : Int), h1.sm g10, rfl, G.dn, G.dl, fun H8 g11 => ?_⟩
      refine ⟨_, rfl, _, rfl, _, _, rfl, disk, spots.getD i 0, h1.sm (g10.trans g11), rfl, G.dn, G.dl, fun H9 g12 => ?_⟩
      refine ⟨rfl, _, rfl, iteB (fun hc => ?_) (fun _ => ?_)⟩
      · rw [G.all i hi z hz, decide_eq_true rfl] at hc
        cases hc
      · exact ⟨_, _, rfl, g10.trans (g11.trans g12)⟩
    · rintro _ H6 ⟨s6, s7, rfl, g9⟩
      exact ⟨_, _, _, _, rfl, g9⟩
  · rintro _ H1 ⟨s4, s5, s6, s7, rfl, g1⟩
    exact q _ g1
/-- an orbit told, sorted -/
def OT : Rp (List Int) := fun H v ws => ∃ ns, TI H v ns ∧ ∀ x : Nat, (x : Int) ∈ ns ↔ ∃ i, iter (stepF ws) i (firstM ws) = x
theorem km_OT : KM OT := fun _ _ _ _ e ⟨ns, h1, h2⟩ => ⟨ns, h1.kp e, h2⟩
def sp_row_by_own_L : Sp := fun vs H Q _ => ∃ v1, vs = [v1] ∧ ∃ rs, TL TI H v1 rs ∧ trainP rs ∧ (∀ r ∈ rs, r.length < 64) ∧ (rs.getD 0 []).length * rs.length < 1000 ∧ ∀ v H', Same H H' → TI H' v (rowOfM rs) → Q v H'
abbrev N_row_by_own_L : List Str := ["_law_disks_here", "_law_found", "_law_orbits_so", "_law_z", "_law_own", "_law_k"]
abbrev s_row_by_own_L : Stmt := topS 59
theorem sc_row_by_own_L : FnScope N_row_by_own_L ["_law_disks_here"] (defScope s_row_by_own_L) := ⟨rfl, rfl, rfl, by decide +kernel, rfl, by decide +kernel, by decide +kernel⟩
theorem ok_row_by_own_L {P : Program} {w : World} {K : PySem.W.Frag} {mg : Str → Option Value} {base : Heap} (Tt : Tx K mg "_law_row_by_own" s_row_by_own_L ["_law_disks_here"]) (Bt : Bi mg) (F_orbit_L : Fd P w K mg base "_law_orbit" 1 3 sp_orbit_L) (F_turned_least_L : Fd P w K mg base "_law_turned_least" 1 1 sp_turned_least_L) :
    Fd P w K mg base "_law_row_by_own" 1 4 sp_row_by_own_L := by
  refine Tt.ok sc_row_by_own_L (fun vs H Q E h => ?_) (fun f cdv A outer s H vs Q E hr h => ?_)
  · obtain ⟨_, rfl, _⟩ := h
    rfl
  obtain ⟨v1, rfl, rs, t, ht, h64, hz, q⟩ := h
  refine ⟨_, pss_cons (ps_set (i := 1) sc_row_by_own_L.nd rfl (Or.inl rfl) (pe_lst (pa_nil)))
    (pss_cons (ps_setLcS (i := 2) (own := [("_law_own", 4)]) rfl sc_row_by_own_L.nd rfl rfl (sw_true rfl rfl rfl (by decide +kernel)) (k_tup K (pv 0)) (blkOk_by (N := N_row_by_own_L) (sc := defScope s_row_by_own_L) (by decide +kernel)) (fun _ _ _ _ _ => pg_name (i := 4) sc_row_by_own_L.nd rfl (Or.inl rfl)) (fun _ _ _ _ _ => pts_nil) (fun _ _ _ _ _ => pe_fn F_orbit_L hr (by decide) rfl (pa_cons (pv 4) (pa_nil))))
    (pss_cons (ps_forS PassesOwn.never rfl (pi_range1 rfl Bt.range (pa_cons (e_len K Bt (pe_ix (k_ixT K) (pv 0) (pe_int) (fun _ _ => rfl))) (pa_nil))) (pg_name (i := 3) sc_row_by_own_L.nd rfl (Or.inr rfl)) (pss_one (ps_set (i := 1) sc_row_by_own_L.nd rfl (Or.inl rfl) (pe_op op_cat (pv 1) (pe_lcS (own := [("_law_k", 5), ("_law_own", 4)]) rfl sc_row_by_own_L.nd (k_enum K Bt (pv 2)) (blkOk_by (N := N_row_by_own_L) (sc := defScope s_row_by_own_L) (by decide +kernel)) (fun _ _ _ _ _ => k_tg K 2 rfl (pgs_cons (pg_name (i := 5) sc_row_by_own_L.nd rfl (Or.inl rfl)) (pgs_cons (pg_name (i := 4) sc_row_by_own_L.nd rfl (Or.inl rfl)) (pgs_nil)))) (fun _ _ _ _ _ => pts_one (pt_cmpR (k_in K) (pv 3) (pv 4) rfl)) (fun _ _ _ _ _ => pv 5))))))
    (pss_one (ps_ret (pe_fn F_turned_least_L hr (by decide) rfl (pa_cons (e_tuple K Bt (pv 1)) (pa_nil))))))), ?_⟩
  have hpos := pos_of_ne ht.1
  have hlr := ht.2.1
  obtain ⟨a, vs, rfl, ha, hvs⟩ := id t
  have hvl := paired_len hvs
  have hN := (ht.2.2.1 _ (paired_getD hvs hpos).2).2
  have hne : ∀ r ∈ rs, r ≠ [] := fun r hr => (ht.2.2.1 r hr).1.1
  refine ⟨Nat.zero_le _, fun F hF => ?_⟩
  have gF := same_new hF (.lst [])
  refine ⟨_, rfl, a, rfl, ⟨_, SqT.of (gF _ _ ha)⟩, List Int, OT, _, _, _, fun i => some (rs.getD i []), src_tup (xs := vs), by omega, fun H' g => SqT.of (g _ _ (gF _ _ ha)), fun i hi => rfl,
    fun i hi H' g Q' q' => q' H' (Same.refl _), .inr ⟨km_OT, fun i b hi hb H' g Q' q' => ?_⟩, fun O os H2 hO g2 hY _ hp => ?_⟩
  · rw [hvl] at hi
    obtain ⟨t, m⟩ := paired_getD hvs (i := i) hi
    refine ⟨_, rfl, _, rfl, _, t.sm (gF.trans g), hne _ m, h64 _ m, fun v H3 ns g3 t3 hm _ => q' _ _ g3 ?_⟩
    rw [← Option.some.inj hb]
    exact ⟨ns, t3, hm⟩
  rw [hvl, fm_all rs [] (fun r => some r), fm_some, List.map_id'] at hp
  have hol := paired_len hp
  have gB := gF.trans g2
  have haF := gB _ _ ha
  obtain ⟨⟨w0, ew, hw0⟩, m0⟩ := paired_getD hvs hpos
  refine ⟨_, rfl, a, _, _, _, rfl, rfl, SqT.of haF, atI_get0 (by decide) (by omega), w0, _, _, congrArg (fun z => [z]) ew, .inr (SqT.of (gB _ _ hw0)), len_int, ?_⟩
  refine ⟨_, rfl, by omega, by omega, fun _ => True, (rs.getD 0 []).length, _, fun i σ Hc => ∃ F x, σ = [some (.ref a), some (.ref F), some (.ref O), x, none, none] ∧ Same H2 Hc ∧ Hc F = some (.lst (((List.range i).flatMap (lettersM rs)).map V.int)),
    src_rng0 (n := (rs.getD 0 []).length), ⟨F, none, rfl, Same.refl _, g2 _ _ upd_same⟩, fun _ _ _ _ => True.intro, ?_, ?_⟩
  · clear hF gF gB haF g2 hO hw0
    clear F
    rintro z _ H3 H4 hz' ⟨F, x, rfl, g3, hF3⟩ e
    have g4 := g3.trans e
    have hO4 := g4 _ _ hY
    have hF4 := e _ _ hF3
    refine ⟨_, rfl, _, rfl, O, _, rfl, .inl ⟨SqL.of hO4, Int, rI, _, _, _, fun k => if inO (rs.getD k []) z = true then some ((k : Nat) : Int) else none, src_enumL, by omega, fun H' g => SqL.of (g _ _ hO4), fun k hk => rfl,
      fun k hk H' g Q' q' => ?_, .inr ⟨km_I, fun k b hk hb H' g Q' q' => ⟨_, rfl, q' _ _ (Same.refl _) (congrArg V.int (if_some hb).symm)⟩⟩, fun E zs H5 hE g5 hZ _ hp5 => ?_⟩⟩
    · rw [hol] at hk
      obtain ⟨⟨ns, ⟨c, ec, hc⟩, hm⟩, mm⟩ := pairedG (d := []) hp hk
      refine ⟨_, rfl, _, rfl, c, _, ec, .inr (SqT.of (g _ _ (g4 _ _ hc))), rfl, flat_ints _, _, rfl, ?_⟩
      show Q' (inV (.int (z : Nat)) _) H'
      rw [inV_int]
      have e1 : decide (((z : Nat) : Int) ∈ ns) = inO (rs.getD k []) z := by
        rw [Bool.eq_iff_iff, decide_eq_true_iff]
        exact (hm z).trans (inO_iff (hne _ mm) z).symm
      rw [e1]
      exact ifs_some.mp (q' H' (Same.refl _))
    · rw [hol, letters_fm hne] at hp5
      have hF5 := g5 _ _ hF4
      rw [paired_I hp5] at hZ
      refine ⟨F, E, _, _, rfl, rfl, hF5, hZ, ?_, fun p hp0 => ⟨p, some (.int (z : Nat)), rfl, g4.trans (g5.trans (same_new hp0 _)), ?_⟩⟩
      · rw [List.length_map, List.length_map]
        have h1 := flatR_len (letters_len rs) z
        have h2 := letters_len rs z
        have h3 : z * rs.length ≤ 1000 * 1000 := Nat.mul_le_mul (by omega) (by omega)
        rw [sizeLine_eq]
        omega
      · rw [upd_same, flatR_succ, List.map_append]
  · rintro _ H3 ⟨F, x, rfl, g3, hF3⟩
    refine ⟨_, rfl, F, _, rfl, .inl ⟨SqL.of hF3, fun l hl => ?_⟩⟩
    have g4 : Same H2 (upd H3 l (.tup ((rowRawM rs).map V.int))) := g3.trans (same_new hl _)
    have hlen : (rowRawM rs).length < 1000 := Nat.lt_of_le_of_lt (flatR_len (letters_len rs) (rs.getD 0 []).length) hz
    exact ⟨_, rfl, rowRawM rs, ⟨l, rfl, upd_same⟩, raw_ne ht, hlen, fun v H5 g5 t5 => q _ _ (gB.trans (g4.trans g5)) t5⟩
end Rw

namespace Rw
open PySem PySem.Spec PyProof.Rows L2 Mth

/-! ### draws -/
/-- all but the thing at p stays -/
def Sm (p : Addr) (H H' : Hp) : Prop := ∀ a o, a ≠ p → H a = some o → H' a = some o
theorem Sm.refl (p : Addr) (H : Hp) : Sm p H H := fun _ _ _ h => h
theorem Sm.trans {p : Addr} {H H1 H2 : Hp} (a : Sm p H H1) (b : Sm p H1 H2) : Sm p H H2 := fun c o n h => b c o n (a c o n h)
theorem Sm.of {p : Addr} {H H' : Hp} (e : Same H H') : Sm p H H' := fun a o _ h => e a o h
theorem Sm.put {p : Addr} {H H' : Hp} {o : HO} (e : Sm p H H') : Sm p H (upd H' p o) := fun a u n h => by
  rw [upd_ne n]
  exact e a u n h
theorem Sm.mut {p D : Addr} {H H' : Hp} {o : HO} (e : Sm p H H') (h : H D = none) : Sm p H (upd H' D o) := fun a u n q => by
  rw [upd_ne (ne_of_none q h)]
  exact e a u n q
/-- the box of draws, n drawn at most -/
def Tin (n : Nat) (H : Hp) (p : Addr) : Prop := ∃ a b c : Int, H p = some (.lst [.int a, .int b, .int c]) ∧ 0 ≤ a ∧ 0 ≤ b ∧ b < 2 ^ 62 ∧ 0 ≤ c ∧ c ≤ (n : Int)
theorem Tin.sm {n : Nat} {H H' : Hp} {p : Addr} (h : Tin n H p) (e : Same H H') : Tin n H' p := by
  obtain ⟨a, b, c, h1, h2⟩ := h
  exact ⟨a, b, c, e _ _ h1, h2⟩
theorem Tin.le {n m : Nat} {H : Hp} {p : Addr} (h : Tin n H p) (e : n ≤ m) : Tin m H p := by
  obtain ⟨a, b, c, h1, h2, h3, h4, h5, h6⟩ := h
  exact ⟨a, b, c, h1, h2, h3, h4, h5, by omega⟩
theorem Tin.kp {n : Nat} {H H' : Hp} {p : Addr} (h : Tin n H p) (e : Sm p H H') : Kp H H' := fun a xs q => by
  obtain ⟨_, _, _, h1, _⟩ := h
  exact e a _ (ne_of q h1 (by intro z; cases z)) q
theorem Tin.ne {n : Nat} {H : Hp} {p D : Addr} (h : Tin n H p) (hD : H D = none) : p ≠ D := by
  obtain ⟨_, _, _, h1, _⟩ := h
  exact ne_of_none h1 hD
theorem Tin.free {n m : Nat} {H H' : Hp} {p D : Addr} (h : Tin n H p) (e : Sm p H H') (h' : Tin m H' p) (hD : H' D = none) : H D = none := by
  cases q : H D with
  | none => rfl
  | some o =>
    by_cases z : D = p
    · obtain ⟨_, _, _, h1, _⟩ := h'
      rw [z, h1] at hD
      cases hD
    · rw [e D o z q] at hD
      cases hD
def sp_box_L : Sp := fun vs H Q _ => ∃ v1 v2, vs = [v1, v2] ∧ ∃ x, LI H v1 [x] ∧ v2 = .int 0 ∧ ∀ p H', Same H H' → Tin 0 H' p → H p = none → Q (.ref p) H'
theorem absI_nonneg (x : Int) : 0 ≤ (if x < 0 then -x else x) := by
  split <;> omega
theorem bI (k : Bool) : (-(2 ^ 64) < (if k = true then (1 : Int) else 0) ∧ (if k = true then (1 : Int) else 0) < 2 ^ 64) ∧ 0 ≤ (if k = true then (1 : Int) else 0) := by
  cases k <;> decide
abbrev N_box_L : List Str := ["_law_script", "_law_k", "_law_bit_so"]
abbrev s_box_L : Stmt := topS 39
theorem sc_box_L : FnScope N_box_L ["_law_script", "_law_k"] (defScope s_box_L) := ⟨rfl, rfl, rfl, by decide +kernel, rfl, by decide +kernel, by decide +kernel⟩
theorem ok_box_L {P : Program} {w : World} {K : PySem.W.Frag} {mg : Str → Option Value} {base : Heap} (Tt : Tx K mg "_law_box" s_box_L ["_law_script", "_law_k"]) (Bt : Bi mg) :
    Fd P w K mg base "_law_box" 2 1 sp_box_L := by
  refine Tt.ok sc_box_L (fun vs H Q E h => ?_) (fun f cdv A outer s H vs Q E hr h => ?_)
  · obtain ⟨_, _, rfl, _⟩ := h
    rfl
  obtain ⟨_, _, rfl, x, ⟨a, rfl, ha⟩, rfl, q⟩ := h
  refine ⟨_, pss_cons (ps_set (i := 2) sc_box_L.nd rfl (Or.inl rfl) (pe_ifExp (pt_cmpR op_lt (pv 1) (e_len K Bt (pv 0)) (nomark _)) (pe_ix (k_ixL K) (pv 0) (pv 1) (fun _ _ => rfl)) (pe_int)))
    (pss_one (ps_ret (pe_lst (pa_cons (pe_op op_mul (e_abs Bt (pv 2)) (e_int Bt (pe_cmpR op_ge (e_abs Bt (pv 2)) (pe_op op_pow (pe_int) (pe_int)) (nomark _)))) (pa_cons (pe_op op_add (pe_op op_add (pe_op op_mod (e_int Bt (pv 2)) (pe_int)) (pe_op op_mul (pe_int) (pv 1))) (pe_int)) (pa_cons (pe_int) (pa_nil))))))), ?_⟩
  refine ⟨_, rfl, _, rfl, a, _, _, rfl, .inl (SqL.of ha), rfl, _, _, rfl, rfl, _, rfl, iteB (fun _ => ?_) (fun hc => by cases hc)⟩
  refine ⟨_, rfl, _, rfl, a, _, _, _, rfl, rfl, SqL.of ha, rfl, ?_⟩
  refine ⟨_, rfl, _, rfl, _, rfl, _, rfl, _, _, rfl, rfl, ⟨by decide, by decide, by decide⟩, _, _, rfl, rfl, .inr ⟨_, rfl, _, _, rfl, rfl, .inr ?_, ?_⟩⟩
  · exact (bI _).1
  refine ⟨_, rfl, .inl ⟨_, rfl, _, _, rfl, rfl, (by show (0 : Int) < _; decide), _, rfl, _, _, rfl, rfl, .inl ⟨by decide, by decide⟩, _, _, rfl, rfl, _, _, rfl, rfl, (by show 3 ≤ sizeLine; decide), fun p hp => ?_⟩⟩
  refine q p _ (same_new hp _) ⟨_, _, _, upd_same, ?_, ?_, ?_, Int.le_refl _, Int.le_refl _⟩ hp
  · exact Int.mul_nonneg (absI_nonneg x) (bI _).2
  · have := mod_ok x (k := 2305843009213693951) (by decide)
    omega
  · have := mod_ok x (k := 2305843009213693951) (by decide)
    omega
def sp_take_L : Sp := fun vs H Q _ => ∃ v1 v2, vs = [v1, v2] ∧ ∃ (p : Addr) (n : Nat) (below : Int), v1 = .ref p ∧ v2 = .int below ∧ Tin n H p ∧ n < 1000000 ∧ 0 < below ∧ below < 1000 ∧
  ∀ r H', 0 ≤ r → r < below → Sm p H H' → Tin (n + 1) H' p → Q (.int r) H'
abbrev N_take_L : List Str := ["_law_tin", "_law_below_so", "_law_drawn", "_law_once_so", "_law_wide_so", "_law_twice_so"]
abbrev s_take_L : Stmt := topS 40
theorem sc_take_L : FnScope N_take_L ["_law_tin", "_law_below_so"] (defScope s_take_L) := ⟨rfl, rfl, rfl, by decide +kernel, rfl, by decide +kernel, by decide +kernel⟩
theorem ok_take_L {P : Program} {w : World} {K : PySem.W.Frag} {mg : Str → Option Value} {base : Heap} (Tt : Tx K mg "_law_take" s_take_L ["_law_tin", "_law_below_so"]) (Bt : Bi mg) :
    Fd P w K mg base "_law_take" 2 1 sp_take_L := by
  refine Tt.ok sc_take_L (fun vs H Q E h => ?_) (fun f cdv A outer s H vs Q E hr h => ?_)
  · obtain ⟨_, _, rfl, _⟩ := h
    rfl
  obtain ⟨_, _, rfl, p, n, below, rfl, rfl, ⟨a, b, c, hp, a0, b0, b1, c0, c1⟩, hn, h0, h1, q⟩ := h
  refine ⟨_, pss_cons (ps_if (pt_cmpR op_gt (pe_ix (k_ixL K) (pv 0) (pe_int) (fun _ _ => rfl)) (pe_int) (nomark _)) (pss_cons (ps_set (i := 2) sc_take_L.nd rfl (Or.inl rfl) (pe_op op_mod (e_int Bt (pe_ix (k_ixL K) (pv 0) (pe_int) (fun _ _ => rfl))) (pv 1)))
    (pss_cons (ps_asg (pe_op op_fdiv (pe_ix (k_ixL K) (pv 0) (pe_int) (fun _ _ => rfl)) (pv 1)) (pg_sub (pv 0) (pe_int) set_list))
    (pss_one (ps_ret (pv 2))))) (pss_nil))
    (pss_cons (ps_asg (pe_op op_add (pe_ix (k_ixL K) (pv 0) (pe_int) (fun _ _ => rfl)) (pe_int)) (pg_sub (pv 0) (pe_int) set_list))
    (pss_cons (ps_set (i := 3) sc_take_L.nd rfl (Or.inl rfl) (pe_op op_mod (e_int Bt (pe_op op_mul (pe_op op_add (pe_ix (k_ixL K) (pv 0) (pe_int) (fun _ _ => rfl)) (pe_op op_mul (pe_int) (pe_ix (k_ixL K) (pv 0) (pe_int) (fun _ _ => rfl)))) (pe_op op_add (pe_int) (pe_ix (k_ixL K) (pv 0) (pe_int) (fun _ _ => rfl))))) (pe_int)))
    (pss_cons (ps_set (i := 4) sc_take_L.nd rfl (Or.inl rfl) (pe_op op_add (pe_op op_mod (e_int Bt (pv 3)) (pe_int)) (pe_int)))
    (pss_cons (ps_set (i := 5) sc_take_L.nd rfl (Or.inl rfl) (pe_op op_mod (e_int Bt (pe_op op_mul (pe_op op_add (pe_op op_add (pv 3) (pe_ix (k_ixL K) (pv 0) (pe_int) (fun _ _ => rfl))) (pe_op op_fdiv (pe_ix (k_ixL K) (pv 0) (pe_int) (fun _ _ => rfl)) (pe_int))) (pv 4))) (pe_int)))
    (pss_one (ps_ret (pe_op op_mod (e_int Bt (pe_op op_fdiv (pe_op op_mod (e_int Bt (pe_op op_add (pe_op op_mul (pv 5) (pe_int)) (pv 3))) (pe_int)) (pe_int))) (pv 1)))))))), ?_⟩
  refine ⟨_, rfl, p, _, _, _, rfl, rfl, SqL.of hp, rfl, _, _, rfl, rfl, _, rfl, iteB (fun hc => ?_) (fun hc => ?_)⟩
  · refine ⟨_, rfl, p, _, _, _, rfl, rfl, SqL.of hp, rfl, .inl ⟨_, rfl, _, rfl, _, _, rfl, rfl, h0, ?_⟩⟩
    refine ⟨_, rfl, p, _, _, _, rfl, rfl, SqL.of hp, rfl, _, rfl, _, _, rfl, rfl, ⟨h0, by omega⟩, _, rfl, p, _, _, 0, rfl, rfl, hp, rfl, ?_⟩
    refine ⟨_, rfl, q _ _ (Int.emod_nonneg _ (by omega)) (Int.emod_lt_of_pos _ h0) (Sm.put (Sm.refl _ _)) ⟨_, _, _, upd_same, Int.ediv_nonneg a0 (by omega), b0, b1, c0, by omega⟩⟩
  · refine ⟨_, rfl, p, _, _, _, rfl, rfl, SqL.of hp, rfl, _, _, rfl, rfl, _, rfl, p, _, _, 2, rfl, rfl, hp, rfl, ?_⟩
    have hp2 : upd H p (.lst [.int a, .int b, .int (c + 1)]) p = some (.lst [.int a, .int b, .int (c + 1)]) := upd_same
    refine ⟨_, rfl, p, _, _, _, rfl, rfl, SqL.of hp2, rfl, _, rfl, p, _, _, _, rfl, rfl, SqL.of hp2, rfl, _, _, rfl, rfl, .inl ⟨by decide, by decide⟩, _, _, rfl, rfl, _, rfl, p, _, _, _, rfl, rfl, SqL.of hp2, rfl, _, _, rfl, rfl, _, _, rfl, rfl, .inr ⟨by omega, by omega⟩, .inl ⟨_, rfl, _, _, rfl, rfl, (by show (0 : Int) < _; decide), ?_⟩⟩
    refine ⟨_, rfl, .inl ⟨_, rfl, _, _, rfl, rfl, (by show (0 : Int) < _; decide), _, _, rfl, rfl, ?_⟩⟩
    refine ⟨_, rfl, _, rfl, p, _, _, _, rfl, rfl, SqL.of hp2, rfl, _, _, rfl, rfl, _, rfl, p, _, _, _, rfl, rfl, SqL.of hp2, rfl, _, _, rfl, rfl, ⟨by decide, by decide⟩, _, _, rfl, rfl, _, rfl, _, _, rfl, rfl, .inr ⟨?_, ?_⟩, .inl ⟨_, rfl, _, _, rfl, rfl, (by show (0 : Int) < _; decide), ?_⟩⟩
    · have := Int.emod_nonneg (((b + 48271 * (c + 1)) * (39373 + (c + 1))) % 2147483647) (show (40009 : Int) ≠ 0 by decide)
      omega
    · have := Int.emod_lt_of_pos (((b + 48271 * (c + 1)) * (39373 + (c + 1))) % 2147483647) (show (0 : Int) < 40009 by decide)
      omega
    refine ⟨_, rfl, _, _, rfl, rfl, .inr ⟨by decide, by decide⟩, _, rfl, _, _, rfl, rfl, .inl ⟨_, rfl, _, _, rfl, rfl, (by show (0 : Int) < _; decide), _, _, rfl, rfl, ⟨by decide, by decide⟩, .inl ⟨_, rfl, _, rfl, _, _, rfl, rfl, h0, ?_⟩⟩⟩
    exact q _ _ (Int.emod_nonneg _ (by omega)) (Int.emod_lt_of_pos _ h0) (Sm.put (Sm.refl _ _)) ⟨_, _, _, upd_same, a0, b0, b1, by omega, by omega⟩
def sp_of_L : Sp := fun vs H Q _ => ∃ v1 v2, vs = [v1, v2] ∧ ∃ (p : Addr) (n : Nat) (rs : List (List Int)), v1 = .ref p ∧ LL TI H v2 rs ∧ Tin n H p ∧ n < 1000000 ∧ rs ≠ [] ∧ rs.length < 1000 ∧
  ∀ v H' r, r ∈ rs → Sm p H H' → Tin (n + 1) H' p → TI H' v r → Q v H'
abbrev N_of_L : List Str := ["_law_tin", "_law_goods_so"]
abbrev s_of_L : Stmt := topS 42
theorem sc_of_L : FnScope N_of_L ["_law_tin", "_law_goods_so"] (defScope s_of_L) := ⟨rfl, rfl, rfl, by decide +kernel, rfl, by decide +kernel, by decide +kernel⟩
theorem ok_of_L {P : Program} {w : World} {K : PySem.W.Frag} {mg : Str → Option Value} {base : Heap} (Tt : Tx K mg "_law_of" s_of_L ["_law_tin", "_law_goods_so"]) (Bt : Bi mg) (F_take_L : Fd P w K mg base "_law_take" 2 1 sp_take_L) :
    Fd P w K mg base "_law_of" 2 2 sp_of_L := by
  refine Tt.ok sc_of_L (fun vs H Q E h => ?_) (fun f cdv A outer s H vs Q E hr h => ?_)
  · obtain ⟨_, _, rfl, _⟩ := h
    rfl
  obtain ⟨_, _, rfl, p, n, rs, rfl, ⟨g, ys, rfl, hg, hys⟩, ht, hn, hne, hl, q⟩ := h
  refine ⟨_, pss_one (ps_ret (pe_ix (k_ixL K) (pv 1) (pe_fn F_take_L hr (by decide) rfl (pa_cons (pv 0) (pa_cons (e_len K Bt (pv 1)) (pa_nil)))) (fun _ _ => rfl))), ?_⟩
  have hpos := pos_of_ne hne
  have hyl := paired_len hys
  refine ⟨_, rfl, _, rfl, _, rfl, g, _, _, rfl, .inl (SqL.of hg), rfl, _, _, rfl, p, n, _, rfl, rfl, ht, hn, by omega, by omega, fun r H1 r0 r1 s1 t1 => ?_⟩
  have hgp : g ≠ p := fun z => by
    obtain ⟨_, _, _, h1, _⟩ := ht
    rw [z, h1] at hg
    cases hg
    obtain ⟨⟨w, ew, _⟩, _⟩ := pairedG (d := []) hys hpos
    cases ew
  have hg1 := s1 _ _ hgp hg
  have hr : r.toNat < rs.length := by omega
  obtain ⟨tr, m⟩ := pairedG (d := []) hys hr
  refine ⟨g, _, _, _, rfl, rfl, SqL.of hg1, atI_get0 r0 (by omega), ?_⟩
  exact q _ _ _ m s1 t1 (tr.kp (ht.kp s1))
/-- the script is read alone -/
def sp_cells_L (K : PySem.W.Frag) : Sp := fun vs H Q _ => ∃ v1 v2, vs = [v1, v2] ∧ ∃ (a : Addr) (ns : List Int), v1 = .ref a ∧ v2 = .int 1 ∧ SqL K H a (ns.map V.int) ∧ ns.length ≤ 63 ∧ ∀ v H' x, Same H H' → LI H' v [x] → Q v H'
theorem cut_ints (ns : List Int) (lo hi : Option Int) : ∃ ms : List Int, cutV (ns.map V.int) lo hi = ms.map V.int ∧ ms.length ≤ ns.length := by
  unfold cutV
  rw [← List.map_drop, ← List.map_take]
  refine ⟨_, rfl, ?_⟩
  rw [List.length_take, List.length_drop]
  omega
theorem cut_one (ns : List Int) : cutV (ns.map V.int) none (some 1) = (ns.take 1).map V.int := by
  cases ns with
  | nil => simp [cutV]
  | cons n ns =>
    rw [List.map_take]
    exact cutV_upto (k := 1) (by rw [List.length_map, List.length_cons]; omega)
abbrev N_cells_L : List Str := ["_law_script", "_law_most_so", "_law_cells_so", "_law_k", "_law_bit_so", "_law_at_so"]
abbrev s_cells_L : Stmt := topS 41
theorem sc_cells_L : FnScope N_cells_L ["_law_script", "_law_most_so"] (defScope s_cells_L) := ⟨rfl, rfl, rfl, by decide +kernel, rfl, by decide +kernel, by decide +kernel⟩
theorem ok_cells_L {P : Program} {w : World} {K : PySem.W.Frag} {mg : Str → Option Value} {base : Heap} (Tt : Tx K mg "_law_cells" s_cells_L ["_law_script", "_law_most_so"]) (Bt : Bi mg) :
    Fd P w K mg base "_law_cells" 2 1 (sp_cells_L K) := by
  refine Tt.ok sc_cells_L (fun vs H Q E h => ?_) (fun f cdv A outer s H vs Q E hr h => ?_)
  · obtain ⟨_, _, rfl, _⟩ := h
    rfl
  obtain ⟨_, _, rfl, a, ns, rfl, rfl, hS, h63, q⟩ := h
  refine ⟨_, pss_cons (ps_set (i := 2) sc_cells_L.nd rfl (Or.inl rfl) (pe_orT (e_list K Bt (pe_slice (k_slL K) (pv 0) (po_none) (po_some (pv 1)))) (pe_one (pe_lst (pa_cons (pe_int) (pa_nil))))))
    (pss_cons (ps_forS PassesOwn.never rfl (k_enum K Bt (pe_slice (k_slL K) (pv 0) (po_some (pv 1)) (po_some (pe_int)))) (k_tg K 2 rfl (pgs_cons (pg_name (i := 3) sc_cells_L.nd rfl (Or.inl rfl)) (pgs_cons (pg_name (i := 4) sc_cells_L.nd rfl (Or.inl rfl)) (pgs_nil)))) (pss_cons (ps_set (i := 5) sc_cells_L.nd rfl (Or.inl rfl) (pe_op op_mod (e_int Bt (pv 3)) (pv 1)))
    (pss_one (ps_asg (pe_op op_add (pe_ix (k_ixL K) (pv 2) (pv 5) (fun _ _ => rfl)) (pe_op op_mul (pv 4) (pe_op op_add (pv 3) (pe_int)))) (pg_sub (pv 2) (pv 5) set_list)))))
    (pss_one (ps_ret (pv 2)))), ?_⟩
  refine ⟨_, rfl, _, rfl, _, rfl, a, _, rfl, hS, fun p1 hp1 => ?_⟩
  have e1 := same_new hp1 (.lst (cutV (ns.map V.int) none (some 1)))
  refine ⟨p1, _, rfl, .inl (SqL.of upd_same), fun l hl => ?_⟩
  have e2 := e1.trans (same_new hl (.lst (cutV (ns.map V.int) none (some 1))))
  have key : ∀ (C : Addr) (x : Int) (H1 : Hp), Same H H1 → H1 C = some (.lst [.int x]) → H C = none → (tSeq (tForS (iEnumA K (tCons (tSl (rSlL K) (tVar 0) (tPart (tVar 1)) (tPart (tC (.int 63)))) tNil)) (gTup K 2 (gCons (gName 3) (gCons (gName 4) gNil)))
      (tSeq (tAsg (tOp (L2.rI (fun x j => 0 < j) fun i j => V.int (i % j)) (tCB (fun xs H Q => (∃ i, xs = [.int i] ∧ Q (.int i) H) ∨ ∃ k, xs = [.bl k] ∧ Q (.int (if k then 1 else 0)) H) (tCons (tVar 3) tNil)) (tVar 1)) (gName 5))
        (tAsg (tOp (rI0 fun i j => V.int (i + j)) (tOp (rIxL K) (tVar 2) (tVar 5)) (tOp (L2.rI CMul fun i j => V.int (i * j)) (tVar 4) (tOp (rI0 fun i j => V.int (i + j)) (tVar 3) (tC (V.int 2))))) (gSub (tVar 2) (tVar 5) rSetL))))
      (tRet (tVar 2))) { nx := fun _ H' => Q .non H', rt := Q } [some (.ref a), some (.int 1), some (.ref C), none, none, none] H1 := fun C x H1 g1 hC hCH => by
    refine ⟨_, rfl, _, rfl, _, rfl, _, rfl, a, _, rfl, g1.seq hS, fun p2 hp2 => ?_⟩
    obtain ⟨ms, em, hml⟩ := cut_ints ns (some 1) (some 63)
    have e3 := same_new hp2 (.lst (cutV (ns.map V.int) (some 1) (some 63)))
    have hpc : p2 ≠ C := fun z => by rw [z, hC] at hp2; cases hp2
    rw [em] at e3 ⊢
    refine ⟨p2, _, rfl, .inl ⟨SqL.of upd_same, _, _, _, fun i σ Hc => ∃ x s3 s4 s5, σ = [some (.ref a), some (.int 1), some (.ref C), s3, s4, s5] ∧ Same H Hc ∧ Hc p2 = some (.lst (ms.map V.int)) ∧ Hc C = some (.lst [.int x]),
      src_enumLI, ⟨x, none, none, none, rfl, g1.trans e3, upd_same, e3 _ _ hC⟩, fun i σ Hc ⟨_, _, _, _, _, _, z, _⟩ => SqL.of z, ?_, ?_⟩⟩
    · rintro i _ H3 H4 hi ⟨x, s3, s4, s5, rfl, g3, hp3, hC3⟩ e
      have e0 : ((i : Nat) : Int) % 1 = 0 := by omega
      have hC4 := e _ _ hC3
      refine ⟨_, rfl, .inl ⟨_, rfl, _, rfl, _, _, rfl, rfl, (by show (0 : Int) < _; decide), ?_⟩⟩
      refine ⟨_, rfl, _, rfl, C, _, _, .int x, rfl, rfl, SqL.of hC4, ?_, _, rfl, _, rfl, _, _, rfl, rfl, _, _, rfl, rfl, .inr ⟨by omega, by omega⟩, _, _, rfl, rfl, _, rfl, _, rfl, C, _, _, 0, rfl, rfl, hC4, ?_, _, _, _, _, rfl, same_mut (g3.trans e) hCH _, ?_, upd_same⟩
      · rw [e0]
        rfl
      · rw [e0]
        rfl
      · rw [upd_ne hpc]
        exact e _ _ hp3
    · rintro _ H3 ⟨x, s3, s4, s5, rfl, g3, hp3, hC3⟩
      exact ⟨_, rfl, q _ _ x g3 ⟨C, rfl, hC3⟩⟩
  refine ⟨_, .inl ⟨_, SqL.of upd_same, rfl⟩, ?_⟩
  rw [cut_one] at e2 ⊢
  cases ns with
  | nil =>
    refine iteF ⟨(by show 1 ≤ sizeLine; decide), fun C hC => ?_⟩
    exact key C 0 _ (e2.trans (same_new hC _)) upd_same (e2.free hC)
  | cons n ns =>
    exact key l n _ e2 upd_same (e1.free hl)
end Rw

namespace Rw
open PySem PySem.Spec PyProof.Rows L2 Mth

/-! ### disks drawn -/
/-- a comprehension whose turns change things: an invariant -/
theorem lc_inv {J : It} {g : TG} {P : Hp → Prop} {n : Nat} {S : Nat → L2.St → L2.St} {tt : TT} {te : TE} {vs : List Nat} {σ : L2.St} {B : Hp} {Q : VK} {D : Addr} (X : Src J g P n S) (Pv : Nat → Hp → Prop) (h0 : Pv 0 (upd B D (.lst [])))
    (hP : ∀ i H, Pv i H → P H) (hw : ∀ i, i < n → wipe (S i (wipe σ vs)) vs = wipe σ vs)
    (hs : ∀ i H H', i < n → Pv i H → Same H H' → tt (S i (wipe σ vs)) H' fun b H3 => if b = true then te (S i (wipe σ vs)) H3 fun y H4 => ∃ acc, H4 D = some (.lst acc) ∧ acc.length < sizeLine ∧ Pv (i + 1) (upd H4 D (.lst (acc ++ [y]))) else Pv (i + 1) H3)
    (hd : ∀ H, Pv n H → Q (.ref D) H) :
    ∃ W : Nat → Nat → Hp → Prop, (∃ m, W 0 m (upd B D (.lst []))) ∧ ∀ i m H, W i m H →
      (J.stop i H ∧ Q (.ref D) H) ∨ (J.go i H ∧ ∃ Nx : Hp → Prop, (∀ H', Nx H' → ∃ m', m' < m ∧ W (i + 1) m' H') ∧ ∀ x H', J.yld i H x H' → g x (wipe σ vs) H' fun σ2 H2 => wipe σ2 vs = wipe σ vs ∧ tt σ2 H2 fun b H3 =>
        if b = true then te σ2 H3 fun y H4 => ∃ acc, H4 D = some (.lst acc) ∧ acc.length < sizeLine ∧ Nx (upd H4 D (.lst (acc ++ [y]))) else Nx H3) := by
  refine ⟨fun i m H => m = n - i ∧ i ≤ n ∧ Pv i H, ⟨n, by simp, Nat.zero_le _, h0⟩, ?_⟩
  rintro i m H ⟨rfl, hi, p⟩
  by_cases hlt : i < n
  · exact .inr ⟨X.go i H (hP _ _ p) hlt, Pv (i + 1), fun H' p' => ⟨n - (i + 1), by omega, rfl, hlt, p'⟩, fun x H' y => X.yl i H x H' _ _ (hP _ _ p) hlt y fun H'' e => ⟨hw i hlt, hs i H H'' hlt p e⟩⟩
  · have e : i = n := by omega
    subst e
    exact .inl ⟨X.st H (hP _ _ p), hd H p⟩
/-- a comprehension whose turns change things: what is walked, and an invariant -/
def tLcV (wi : L2.TI) (g : TG) (tt : TT) (te : TE) (vs : List Nat) : TE := fun σ H Q => wi σ H fun J B => ∀ D, B D = none → ∃ (P : Hp → Prop) (n : Nat) (S : Nat → L2.St → L2.St) (Pv : Nat → Hp → Prop), Src J g P n S ∧ Pv 0 (upd B D (.lst [])) ∧
  (∀ i H, Pv i H → P H) ∧ (∀ i, i < n → wipe (S i (wipe σ vs)) vs = wipe σ vs) ∧
  (∀ i H H', i < n → Pv i H → Same H H' → tt (S i (wipe σ vs)) H' fun b H3 => if b = true then te (S i (wipe σ vs)) H3 fun y H4 => ∃ acc, H4 D = some (.lst acc) ∧ acc.length < sizeLine ∧ Pv (i + 1) (upd H4 D (.lst (acc ++ [y]))) else Pv (i + 1) H3) ∧
  ∀ H, Pv n H → Q (.ref D) H
theorem tLcV.to {wi : L2.TI} {g : TG} {tt : TT} {te : TE} {vs : List Nat} {σ : L2.St} {H : Hp} {Q : VK} (h : tLcV wi g tt te vs σ H Q) : tLc (iMono wi) g tt te vs σ H Q := by
  refine ⟨_, h, fun J B q D hD => ?_⟩
  obtain ⟨P, n, S, Pv, hS, h0, hP, hw, hs, hd⟩ := q D hD
  exact lc_inv hS Pv h0 hP hw hs hd
theorem pe_lcV {X : Cx} {pos : Pos} {elt tg iter : Expr} {ifs : List Expr} {scope : Scope} {own : List (Str × Nat)} {wi : L2.TI} {g : TG} {tt : TT} {te : TE} (hc : X.calm = true) (hN : X.N.Nodup) (hi : PI X tg iter wi) (ok : BlkOk X.N X.env.scope scope own)
    (hg : ∀ (s : Shared) (H : Hp) (C : Addr) (cl : List (Str × Addr)) (fp : List Addr), PG (X.blk s H scope (compEnvC scope cl C X.env) fp) tg g) (ht : ∀ (s : Shared) (H : Hp) (C : Addr) (cl : List (Str × Addr)) (fp : List Addr), PTs (X.blk s H scope (compEnvC scope cl C X.env) fp) ifs tt)
    (he : ∀ (s : Shared) (H : Hp) (C : Addr) (cl : List (Str × Addr)) (fp : List Addr), PE (X.blk s H scope (compEnvC scope cl C X.env) fp) elt te) (hs : ∀ x, foldedSetIterable iter X.env x = pure x := by intro _; rfl) :
    PE X (.ListComp elt [⟨tg, iter, ifs, 0⟩] scope pos) (tLcV wi g tt te (own.map (·.2))) :=
  have q := pe_lc (pos := pos) hc hN (pi_mono hi) ok hg ht he hs
  ⟨fun pins s σ H Q I h => q.run pins s σ H Q I h.to⟩
theorem ixN_int {n : Nat} {r : Int} (h0 : 0 ≤ r) (h1 : r < (n : Int)) : ixN n r = some r.toNat := by
  unfold ixN
  rw [if_pos h0, if_pos h1]
theorem iteY {A B : Prop} (h : A) : if true = true then A else B := h
def sp_disk_L : Sp := fun vs H Q _ => ∃ v1 v2, vs = [v1, v2] ∧ ∃ (p : Addr) (n ring : Nat), v1 = .ref p ∧ v2 = .int (ring : Nat) ∧ Tin n H p ∧ n < 100000 ∧ 0 < ring ∧ ring < 18 ∧
  ∀ v H' ns, Sm p H H' → Tin (n + 20) H' p → TI H' v ns → wheelP ns → ns.length = ring → Q v H'
/-- the numbers from start on, one at k raised -/
def bumpM (ring : Nat) (start : Int) (k : Nat) : List Int := (List.range ring).map fun (i : Nat) => (i : Int) + start + if i = k then 1 else 0
theorem bump_len (ring : Nat) (start : Int) (k : Nat) : (bumpM ring start k).length = ring := by unfold bumpM; rw [List.length_map, List.length_range]
theorem bump_at {ring : Nat} {start : Int} {k i : Nat} (h : i < ring) : (bumpM ring start k).getD i 0 = (i : Int) + start + if i = k then 1 else 0 := by
  unfold bumpM
  rw [List.getD_eq_getElem?_getD, List.getElem?_map, List.getElem?_range h]
  rfl
theorem bump_wheel {ring : Nat} {start : Int} {k : Nat} (h : 0 < ring) : wheelP (bumpM ring start k) := by
  refine ⟨fun e => ?_, fun i hi => ?_, ?_⟩
  · have := congrArg List.length e
    rw [bump_len] at this
    exact absurd this (by show ¬ ring = 0; omega)
  · rw [bump_len] at hi
    rw [bump_at (by omega), bump_at hi]
    split <;> split <;> omega
  · rw [bump_len, bump_at (by omega), bump_at h]
    split <;> split <;> omega
theorem shift_wheel {ring : Nat} {start : Int} (h : 0 < ring) : wheelP ((List.range ring).map fun (i : Nat) => (i : Int) + start) := by
  have hl : ((List.range ring).map fun (i : Nat) => (i : Int) + start).length = ring := by rw [List.length_map, List.length_range]
  have hat : ∀ i, i < ring → ((List.range ring).map fun (i : Nat) => (i : Int) + start).getD i 0 = (i : Int) + start := fun i hi => by
    rw [List.getD_eq_getElem?_getD, List.getElem?_map, List.getElem?_range hi]
    rfl
  refine ⟨fun e => ?_, fun i hi => ?_, ?_⟩
  · rw [e] at hl
    have : 0 = ring := hl
    omega
  · rw [hl] at hi
    rw [hat i (by omega), hat (i + 1) hi]
    omega
  · rw [hl, hat _ (by omega), hat 0 h]
    omega
theorem bump_set (ring : Nat) (start : Int) (k : Nat) : ((List.range ring).map fun (i : Nat) => (i : Int) + start).set k ((k : Int) + start + 1) = bumpM ring start k := by
  unfold bumpM
  apply List.ext_getElem
  · rw [List.length_set, List.length_map, List.length_map]
  · intro i h1 h2
    rw [List.length_map, List.length_range] at h2
    rw [List.getElem_set]
    split
    · rename_i e
      subst e
      simp
    · rename_i e
      simp [Ne.symm e]
theorem sorted_wheel {ns : List Int} {lo hi : Int} (hne : ns ≠ []) (hs : ns.Pairwise (· ≤ ·)) (hb : ∀ x ∈ ns, lo ≤ x ∧ x ≤ hi) (h : hi ≤ lo + (ns.length : Int)) : wheelP ns := by
  have hp := pos_of_ne hne
  refine ⟨hne, fun i hi' => ?_, ?_⟩
  · rw [getD_of (List.getElem?_eq_getElem (show i < ns.length by omega)), getD_of (List.getElem?_eq_getElem hi')]
    exact List.pairwise_iff_getElem.mp hs i (i + 1) (by omega) hi' (by omega)
  · have h1 := hb _ (getD_mem (i := ns.length - 1) (by omega))
    have h2 := hb _ (getD_mem (i := 0) hp)
    omega
abbrev N_disk_L : List Str := ["_law_tin", "_law_ring_so", "_law_start_so", "_law_kind_so", "_law_disk_here", "_law_k", "_law_j", "_law_wide_so", "_law_own", "_law_lap"]
abbrev s_disk_L : Stmt := topS 55
theorem sc_disk_L : FnScope N_disk_L ["_law_tin", "_law_ring_so"] (defScope s_disk_L) := ⟨rfl, rfl, rfl, by decide +kernel, rfl, by decide +kernel, by decide +kernel⟩
theorem ok_disk_L {P : Program} {w : World} {K : PySem.W.Frag} {mg : Str → Option Value} {base : Heap} (Tt : Tx K mg "_law_disk" s_disk_L ["_law_tin", "_law_ring_so"]) (Bt : Bi mg) (F_take_L : Fd P w K mg base "_law_take" 2 1 sp_take_L) (F_shift_L : Fd P w K mg base "_law_shift" 2 1 sp_shift_L) :
    Fd P w K mg base "_law_disk" 2 2 sp_disk_L := by
  refine Tt.ok sc_disk_L (fun vs H Q E h => ?_) (fun f cdv A outer s H vs Q E hr h => ?_)
  · obtain ⟨_, _, rfl, _⟩ := h
    rfl
  obtain ⟨_, _, rfl, p, n, ring, rfl, rfl, ht, hn, h0, h1, q⟩ := h
  refine ⟨_, pss_cons (ps_asg (pe_tup (pa_cons (pe_op op_sub (pe_fn F_take_L hr (by decide) rfl (pa_cons (pv 0) (pa_cons (pe_op op_mul (pe_int) (pv 1)) (pa_nil)))) (pv 1)) (pa_cons (pe_fn F_take_L hr (by decide) rfl (pa_cons (pv 0) (pa_cons (pe_int) (pa_nil)))) (pa_nil)))) (k_tg K 2 rfl (pgs_cons (pg_name (i := 2) sc_disk_L.nd rfl (Or.inr rfl)) (pgs_cons (pg_name (i := 3) sc_disk_L.nd rfl (Or.inl rfl)) (pgs_nil)))))
    (pss_cons (ps_if (pt_cmpR op_eq (pv 3) (pe_int) (nomark _)) (pss_one (ps_ret (pe_fn F_shift_L hr (by decide) rfl (pa_cons (pv 1) (pa_cons (pv 2) (pa_nil)))))) (pss_nil))
    (pss_cons (ps_if (pt_cmpR op_eq (pv 3) (pe_int) (nomark _)) (pss_cons (ps_set (i := 4) sc_disk_L.nd rfl (Or.inr rfl) (e_list K Bt (pe_fn F_shift_L hr (by decide) rfl (pa_cons (pv 1) (pa_cons (pv 2) (pa_nil))))))
    (pss_cons (ps_set (i := 5) sc_disk_L.nd rfl (Or.inl rfl) (pe_fn F_take_L hr (by decide) rfl (pa_cons (pv 0) (pa_cons (pv 1) (pa_nil)))))
    (pss_cons (ps_asg (pe_op op_add (pe_ix (k_ixL K) (pv 4) (pv 5) (fun _ _ => rfl)) (pe_int)) (pg_sub (pv 4) (pv 5) set_list))
    (pss_cons (ps_forS PassesOwn.never rfl (pi_range2 rfl Bt.range (pa_cons (pe_op op_add (pv 5) (pe_int)) (pa_cons (pv 1) (pa_nil)))) (pg_name (i := 6) sc_disk_L.nd rfl (Or.inl rfl)) (pss_one (ps_asg (e_max2 Bt (pe_ix (k_ixL K) (pv 4) (pv 6) (fun _ _ => rfl)) (pe_ix (k_ixL K) (pv 4) (pe_op op_sub (pv 6) (pe_int)) (fun _ _ => rfl))) (pg_sub (pv 4) (pv 6) set_list))))
    (pss_one (ps_ret (e_tuple K Bt (pe_lcS (own := [("_law_own", 8)]) rfl sc_disk_L.nd (k_list K (pv 4)) (blkOk_by (N := N_disk_L) (sc := defScope s_disk_L) (by decide +kernel)) (fun _ _ _ _ _ => pg_name (i := 8) sc_disk_L.nd rfl (Or.inl rfl)) (fun _ _ _ _ _ => pts_nil) (fun _ _ _ _ _ => e_min2 Bt (pv 8) (pe_op op_add (pe_ix (k_ixL K) (pv 4) (pe_int) (fun _ _ => rfl)) (pv 1))))))))))) (pss_nil))
    (pss_cons (ps_set (i := 7) sc_disk_L.nd rfl (Or.inr rfl) (pe_ifExp (pt_cmpR op_gt (pv 3) (pe_int) (nomark _)) (pe_op op_add (pv 1) (pe_int)) (pe_op op_add (pe_int) (pe_fn F_take_L hr (by decide) rfl (pa_cons (pv 0) (pa_cons (pv 1) (pa_nil)))))))
    (pss_one (ps_ret (e_tuple K Bt (e_sortI K Bt (pe_lcV (own := [("_law_lap", 9)]) rfl sc_disk_L.nd (pi_range1 rfl Bt.range (pa_cons (pv 1) (pa_nil))) (blkOk_by (N := N_disk_L) (sc := defScope s_disk_L) (by decide +kernel)) (fun _ _ _ _ _ => pg_name (i := 9) sc_disk_L.nd rfl (Or.inl rfl)) (fun _ _ _ _ _ => pts_nil) (fun _ _ _ _ _ => pe_op op_add (pv 2) (pe_fn F_take_L hr (by decide) rfl (pa_cons (pv 0) (pa_cons (pv 7) (pa_nil))))))))))))), ?_⟩
  refine ⟨_, rfl, _, rfl, _, _, rfl, rfl, .inl ⟨by decide, by decide⟩, _, _, rfl, p, n, 3 * (ring : Int), rfl, rfl, ht, by omega, by omega, by omega, fun r1 H1 r1a r1b s1 t1 => ?_⟩
  refine ⟨_, rfl, _, _, rfl, rfl, _, rfl, _, _, rfl, p, n + 1, 5, rfl, rfl, t1, by omega, by decide, by decide, fun kd H2 ka kb s2 t2 => ?_⟩
  have s3 := s1.trans s2
  refine ⟨(by show 2 ≤ sizeLine; decide), fun pt hpt => ⟨pt, _, rfl, SqT.of upd_same, rfl, _, _, rfl, _, _, rfl, rfl, ?_⟩⟩
  have e4 := same_new hpt (.tup [.int (r1 - (ring : Int)), .int kd])
  have s4 := s3.trans (Sm.of e4)
  have t4 := t2.sm e4
  refine ⟨_, rfl, rfl, _, rfl, iteB (fun hc => ?_) (fun hc => ?_)⟩
  · refine ⟨_, rfl, _, rfl, _, _, rfl, ring, r1 - (ring : Int), rfl, rfl, by omega, fun v H5 e5 tv => ?_⟩
    exact q _ _ _ (s4.trans (Sm.of e5)) ((t4.sm e5).le (by omega)) tv (shift_wheel h0) (by rw [List.length_map, List.length_range])
  refine ⟨_, rfl, rfl, _, rfl, iteB (fun hc => ?_) (fun hc => ?_)⟩
  · refine ⟨_, rfl, _, rfl, _, _, rfl, ring, r1 - (ring : Int), rfl, rfl, by omega, fun v H5 e5 tv => ?_⟩
    obtain ⟨a5, rfl, h5⟩ := tv
    generalize hl0 : ((List.range ring).map fun (i : Nat) => (i : Int) + (r1 - (ring : Int))) = l0 at h5
    have l0l : l0.length = ring := by rw [← hl0, List.length_map, List.length_range]
    refine ⟨a5, _, rfl, .inr (SqT.of h5), fun D hD => ?_⟩
    have s5 := s4.trans (Sm.of e5)
    have t5 := t4.sm e5
    have e6 := same_new hD (.lst (l0.map V.int))
    have hDH := ht.free s5 t5 hD
    have hpD := ht.ne hDH
    refine ⟨_, rfl, _, rfl, _, _, rfl, p, n + 2, ring, rfl, rfl, t5.sm e6, by omega, by omega, by omega, fun r H7 ra rb s7 t7 => ?_⟩
    have hD7 := s7 _ _ (Ne.symm hpD) (upd_same (o := .lst (l0.map V.int)))
    have s8 := (s5.trans (Sm.of e6)).trans s7
    have hr : r.toNat < ring := by omega
    have ev : l0.getD r.toNat 0 + 1 = (r.toNat : Int) + (r1 - (ring : Int)) + 1 := by
      rw [← hl0, List.getD_eq_getElem?_getD, List.getElem?_map, List.getElem?_range hr]
      rfl
    refine ⟨_, rfl, _, rfl, D, _, _, _, rfl, rfl, SqL.of hD7, atI_int ra (by omega), _, _, rfl, rfl, _, rfl, _, rfl, D, _, _, r.toNat, rfl, rfl, hD7, ixN_int ra (by rw [List.length_map]; omega), ?_⟩
    have eb : (l0.map V.int).set r.toNat (.int (l0.getD r.toNat 0 + 1)) = (bumpM ring (r1 - (ring : Int)) r.toNat).map V.int := by
      rw [ev, ← hl0, ← List.map_set, bump_set]
    dsimp only
    rw [eb]
    generalize hL : bumpM ring (r1 - (ring : Int)) r.toNat = L at eb
    have Ll : L.length = ring := by rw [← hL, bump_len]
    have Lat : ∀ i, i < ring → L.getD i 0 = (i : Int) + (r1 - (ring : Int)) + if i = r.toNat then 1 else 0 := fun i hi => by rw [← hL, bump_at hi]
    have Lw : wheelP L := by rw [← hL]; exact bump_wheel h0
    refine ⟨_, rfl, _, _, rfl, rfl, _, rfl, _, _, rfl, ⟨by omega, by omega, by omega, by omega⟩, fun _ => True, ((ring : Int) - (r + 1)).toNat, _, fun i σ Hc => ∃ s6, σ = [some (.ref p), some (.int (ring : Nat)), some (.int (r1 - (ring : Int))), some (.int kd), some (.ref D), some (.int r), s6, none, none, none] ∧ Sm p H Hc ∧ Tin (n + 3) Hc p ∧ Hc D = some (.lst (L.map V.int)),
      src_rng, ⟨none, rfl, s8.mut hDH, ?_, upd_same⟩, fun _ _ _ _ => True.intro, ?_, ?_⟩
    · obtain ⟨a, b, c, x1, x2⟩ := t7
      exact ⟨a, b, c, by rw [upd_ne hpD]; exact x1, x2⟩
    · rintro i _ H8 H9 hi ⟨s6, rfl, s8, t8, hD8⟩ e9
      have hD9 := e9 _ _ hD8
      have j0 : 0 ≤ r + 1 + (i : Int) := by omega
      have j1 : r + 1 + (i : Int) < (ring : Int) := by omega
      have eL : (L.map V.int).set (r + 1 + (i : Int)).toNat (.int (if L.getD (r + 1 + (i : Int) - 1).toNat 0 > L.getD (r + 1 + (i : Int)).toNat 0 then L.getD (r + 1 + (i : Int) - 1).toNat 0 else L.getD (r + 1 + (i : Int)).toNat 0)) = L.map V.int := by
        have h1 := Lat (r + 1 + (i : Int)).toNat (by omega)
        have h2 := Lat (r + 1 + (i : Int) - 1).toNat (by omega)
        rw [if_neg (show ¬ (r + 1 + (i : Int)).toNat = r.toNat by omega)] at h1
        have h3 : L.getD (r + 1 + (i : Int) - 1).toNat 0 ≤ L.getD (r + 1 + (i : Int)).toNat 0 := by
          rw [h1, h2]
          split <;> omega
        rw [if_neg (by omega), ← List.map_set]
        congr 1
        have hlt : (r + 1 + (i : Int)).toNat < L.length := by omega
        rw [getD_of (List.getElem?_eq_getElem hlt)]
        exact List.set_getElem_self hlt
      refine ⟨_, rfl, _, rfl, D, _, _, _, rfl, rfl, SqL.of hD9, atI_int j0 (by omega), _, rfl, _, rfl, _, _, rfl, rfl, D, _, _, _, rfl, rfl, SqL.of hD9, atI_int (by omega) (by omega), _, _, rfl, _, rfl, _, rfl, D, _, _, _, rfl, rfl, hD9, ixN_int j0 (by rw [List.length_map]; omega), some (.int (r + 1 + (i : Int))), rfl, (s8.trans (Sm.of e9)).mut hDH, ?_, ?_⟩
      · obtain ⟨a, b, c, x1, x2⟩ := t8.sm e9
        exact ⟨a, b, c, by rw [upd_ne hpD]; exact x1, x2⟩
      · rw [upd_same, eL]
    · rintro _ H8 ⟨s6, rfl, s8, t8, hD8⟩
      refine ⟨_, rfl, D, rfl, ⟨_, SqL.of hD8⟩, Int, rI, _, _, _, fun i => some (L.getD i 0), src_lstI, by omega, fun H' g => SqL.of (g _ _ hD8), fun i hi => rfl,
        fun i hi H' g Q' q' => q' H' (Same.refl _), .inr ⟨km_I, fun i b hi hb H' g Q' q' => ?_⟩, fun E ys H9 hE g9 hY _ hp => ?_⟩
      · rw [Ll] at hi
        refine ⟨_, rfl, _, rfl, D, _, _, _, rfl, rfl, SqL.of (g _ _ hD8), atI_int (i := 0) (by decide) (by omega), _, rfl, _, _, rfl, rfl, _, _, rfl, q' _ _ (Same.refl _) ?_⟩
        have h1 := Lat i hi
        have h2 := Lat 0 h0
        rw [← Option.some.inj hb]
        congr 1
        show (if L.getD 0 0 + (ring : Int) < L.getD i 0 then L.getD 0 0 + (ring : Int) else L.getD i 0) = L.getD i 0
        rw [if_neg]
        rw [h1, h2]
        split <;> split <;> omega
      · rw [fm_all L 0 (fun x => some x), fm_some, List.map_id'] at hp
        refine ⟨E, ys, rfl, .inl ⟨SqL.of hY, fun l hl => ?_⟩⟩
        have e10 := g9.trans (same_new hl (.tup ys))
        exact q _ _ L (s8.trans (Sm.of e10)) ((t8.sm e10).le (by omega)) ⟨l, rfl, by rw [upd_same, paired_I hp]⟩ Lw Ll
  · have key : ∀ (wd : Int) (H1 : Hp), 1 ≤ wd → wd ≤ (ring : Int) + 1 → Sm p H H1 → Tin (n + 3) H1 p → tRet (tCB (fun xs H Q => ∃ p ys, xs = [V.ref p] ∧ ((SqL K H p ys ∧ ∀ (l : Addr), H l = none → Q (V.ref l) (upd H l (HO.tup ys))) ∨ SqT K H p ys ∧ Q (V.ref p) H))
        (tCons (tCB (rSorted K) (tCons (tLcV (iRng1 (tCons (tVar 1) tNil)) (gName 9) tYes (tOp (rI0 fun i j => V.int (i + j)) (tVar 2) (tFn sp_take_L (tCons (tVar 0) (tCons (tVar 7) tNil)))) [9]) tNil)) tNil))
        { nx := fun _ H' => Q .non H', rt := Q } [some (.ref p), some (.int (ring : Nat)), some (.int (r1 - (ring : Int))), some (.int kd), none, none, none, some (.int wd), none, none] H1 := fun wd H1 w0 w1 s1 t1 => by
      refine ⟨_, rfl, _, rfl, by omega, by omega, fun D hD => ?_⟩
      have hDH := ht.free s1 t1 hD
      have hpD := ht.ne hDH
      refine ⟨_, ring, _, fun i Hc => ∃ ns : List Int, Hc D = some (.lst (ns.map V.int)) ∧ ns.length = i ∧ (∀ x ∈ ns, r1 - (ring : Int) ≤ x ∧ x ≤ r1 - (ring : Int) + wd - 1) ∧ Sm p H Hc ∧ Tin (n + 3 + i) Hc p, src_rng0 (n := ring), ?_, fun _ _ _ => True.intro, fun i hi => ?_, ?_, ?_⟩
      · exact ⟨[], upd_same, rfl, fun x hx => (by cases hx), s1.trans (Sm.of (same_new hD _)), t1.sm (same_new hD _)⟩
      · rfl
      · rintro i H2 H3 hi ⟨ns, hD2, hl, hb, s2, t2⟩ e
        unfold tYes
        dsimp only
        rw [if_pos rfl]
        refine ⟨_, rfl, _, rfl, _, rfl, _, _, rfl, p, n + 3 + i, wd, rfl, rfl, t2.sm e, by omega, by omega, by omega, fun r H4 ra rb s4 t4 => ?_⟩
        have hD4 := s4 _ _ (Ne.symm hpD) (e _ _ hD2)
        refine ⟨_, _, rfl, rfl, _, hD4, ?_, ns ++ [r1 - (ring : Int) + r], ?_, ?_, fun x hx => ?_, ((s2.trans (Sm.of e)).trans s4).mut hDH, ?_⟩
        · rw [List.length_map, sizeLine_eq]
          omega
        · rw [upd_same, List.map_append]
          rfl
        · rw [List.length_append, hl]
          rfl
        · rcases List.mem_append.mp hx with hx | hx
          · exact hb x hx
          · rw [List.mem_singleton.mp hx]
            omega
        · obtain ⟨a, b, c, x1, x2⟩ := t4
          exact ⟨a, b, c, by rw [upd_ne hpD]; exact x1, x2⟩
      · rintro H2 ⟨ns, hD2, hl, hb, s2, t2⟩
        refine ⟨D, ns, rfl, SqL.of hD2, by omega, fun ns' l' hperm hpw hl' => ⟨l', _, rfl, .inl ⟨SqL.of upd_same, fun l hl2 => ?_⟩⟩⟩
        have e3 := (same_new hl' (.lst (ns'.map V.int))).trans (same_new hl2 (.tup (ns'.map V.int)))
        have hl3 : ns'.length = ring := by rw [hperm.length_eq, hl]
        refine q _ _ ns' (s2.trans (Sm.of e3)) ((t2.sm e3).le (by omega)) ⟨l, rfl, upd_same⟩ (sorted_wheel (lo := r1 - (ring : Int)) (hi := r1 - (ring : Int) + wd - 1) (fun z => ?_) hpw (fun x hx => hb x (hperm.mem_iff.mp hx)) (by omega)) hl3
        rw [z] at hl3
        have : 0 = ring := hl3
        omega
    refine ⟨_, rfl, ?_⟩
    refine ⟨_, _, rfl, rfl, ?_⟩
    refine ⟨_, rfl, iteB (fun hc2 => ?_) (fun hc2 => ?_)⟩
    · refine ⟨_, rfl, _, _, rfl, rfl, ?_⟩
      exact key ((ring : Int) + 1) _ (by omega) (by omega) s4 (t4.le (by omega))
    · refine ⟨_, rfl, _, rfl, _, _, rfl, p, n + 1 + 1, (ring : Int), rfl, rfl, t4, by omega, by omega, by omega, fun r H5 ra rb s5 t5 => ⟨_, _, rfl, rfl, ?_⟩⟩
      exact key (1 + r) _ (by omega) (by omega) (s4.trans s5) (t5.le (by omega))
def sp_disks_L : Sp := fun vs H Q _ => ∃ v1 v2 v3, vs = [v1, v2, v3] ∧ ∃ (p : Addr) (n ring many : Nat), v1 = .ref p ∧ v2 = .int (ring : Nat) ∧ v3 = .int (many : Nat) ∧ Tin n H p ∧ n < 10000 ∧ 0 < ring ∧ ring < 18 ∧ 0 < many ∧ many < 50 ∧
  ∀ v H' rs, Sm p H H' → TL TI H' v rs → rs.length = many → (∀ r ∈ rs, wheelP r ∧ r.length = ring) → Q v H'
abbrev N_disks_L : List Str := ["_law_tin", "_law_ring_so", "_law_many_so", "_law_lap"]
abbrev s_disks_L : Stmt := topS 56
theorem sc_disks_L : FnScope N_disks_L ["_law_tin", "_law_ring_so", "_law_many_so"] (defScope s_disks_L) := ⟨rfl, rfl, rfl, by decide +kernel, rfl, by decide +kernel, by decide +kernel⟩
theorem ok_disks_L {P : Program} {w : World} {K : PySem.W.Frag} {mg : Str → Option Value} {base : Heap} (Tt : Tx K mg "_law_disks" s_disks_L ["_law_tin", "_law_ring_so", "_law_many_so"]) (Bt : Bi mg) (F_disk_L : Fd P w K mg base "_law_disk" 2 2 sp_disk_L) :
    Fd P w K mg base "_law_disks" 3 3 sp_disks_L := by
  refine Tt.ok sc_disks_L (fun vs H Q E h => ?_) (fun f cdv A outer s H vs Q E hr h => ?_)
  · obtain ⟨_, _, _, rfl, _⟩ := h
    rfl
  obtain ⟨_, _, _, rfl, p, n, ring, many, rfl, rfl, rfl, ht, hn, h0, h1, h2, h3, q⟩ := h
  refine ⟨_, pss_one (ps_ret (e_tuple K Bt (pe_lcV (own := [("_law_lap", 3)]) rfl sc_disks_L.nd (pi_range1 rfl Bt.range (pa_cons (pv 2) (pa_nil))) (blkOk_by (N := N_disks_L) (sc := defScope s_disks_L) (by decide +kernel)) (fun _ _ _ _ _ => pg_name (i := 3) sc_disks_L.nd rfl (Or.inl rfl)) (fun _ _ _ _ _ => pts_nil) (fun _ _ _ _ _ => pe_fn F_disk_L hr (by decide) rfl (pa_cons (pv 0) (pa_cons (pv 1) (pa_nil))))))), ?_⟩
  refine ⟨_, rfl, _, rfl, by omega, by omega, fun D hD => ?_⟩
  have hpD := ht.ne hD
  refine ⟨_, many, _, fun i Hc => ∃ ys rs, Hc D = some (.lst ys) ∧ Paired (TI Hc) ys rs ∧ rs.length = i ∧ (∀ r ∈ rs, wheelP r ∧ r.length = ring) ∧ Sm p H Hc ∧ Tin (n + 20 * i) Hc p, src_rng0 (n := many), ?_, fun _ _ _ => True.intro, fun i hi => ?_, ?_, ?_⟩
  · exact ⟨[], [], upd_same, .nil, rfl, fun x hx => (by cases hx), Sm.of (same_new hD _), ht.sm (same_new hD _)⟩
  · rfl
  · rintro i H2 H3 hi ⟨ys, rs, hD2, hp2, hl, hb, s2, t2⟩ e
    unfold tYes
    dsimp only
    rw [if_pos rfl]
    have t3 := t2.sm e
    refine ⟨_, rfl, _, rfl, _, _, rfl, p, n + 20 * i, ring, rfl, rfl, t3, by omega, h0, h1, fun v H4 ns s4 t4 tv hw hwl => ?_⟩
    have hD4 := s4 _ _ (Ne.symm hpD) (e _ _ hD2)
    have pl := paired_len hp2
    refine ⟨_, hD4, ?_, ys ++ [v], rs ++ [ns], upd_same, ?_, ?_, fun x hx => ?_, ((s2.trans (Sm.of e)).trans s4).mut hD, ?_⟩
    · rw [sizeLine_eq]
      omega
    · exact paired_appR (paired_mono (fun v b h => ((h.sm e).kp (t3.kp s4)).kp (Kp.lst hD4)) hp2) (.cons (tv.kp (Kp.lst hD4)) .nil)
    · rw [List.length_append, hl]
      rfl
    · rcases List.mem_append.mp hx with hx | hx
      · exact hb x hx
      · rw [List.mem_singleton.mp hx]
        exact ⟨hw, hwl⟩
    · obtain ⟨a, b, c, x1, x2, x3, x4, x5, x6⟩ := t4
      exact ⟨a, b, c, by rw [upd_ne hpD]; exact x1, x2, x3, x4, x5, by omega⟩
  · rintro H2 ⟨ys, rs, hD2, hp2, hl, hb, s2, t2⟩
    refine ⟨D, ys, rfl, .inl ⟨SqL.of hD2, fun l hl2 => ?_⟩⟩
    have e3 := same_new hl2 (.tup ys)
    exact q _ _ rs (s2.trans (Sm.of e3)) ⟨l, ys, rfl, upd_same, paired_mono (fun v b h => h.sm e3) hp2⟩ hl hb
end Rw

namespace Rw
open PySem PySem.Spec PyProof.Rows L2 Mth

/-! ### the numbers that the law draws from: all that is asked of them, seen one by one -/
def numsM : List (List Int) := [[1, 1], [2, 2], [3, 2], [3, 3], [4, 2], [5, 3], [2, 2, 2], [1, 2, 3], [1, 1, 1, 1], [2, 1, 1, 1], [4], [4, 4]]
def turn1 (r : List Int) : List Int := r.drop 1 ++ r.take 1
def okLedB (row : List Int) (n : Nat) : Bool := decide (row ≠ []) && decide (row.length < 1000) && decide (n < 1000) && (List.range n).all fun k => decide (spotsM row k ≠ [])
theorem okLed_of {row : List Int} {n : Nat} (h : okLedB row n = true) : okLed row n := by
  unfold okLedB at h
  simp only [Bool.and_eq_true, List.all_eq_true, decide_eq_true_eq, List.mem_range] at h
  obtain ⟨⟨⟨a, b⟩, c⟩, d⟩ := h
  exact ⟨a, b, c, d⟩
def rowOk (n : Nat) (row : List Int) : Bool := isWordI row && decide (maxM row + 1 = (n : Int)) && okLedB row n &&
  (List.range n).all fun k => (List.range 9).all fun m => greatB (greatestM (spotsM row k) ((m : Int) - 4) row.length) (spotsM row k) ((m : Int) - 4) row.length
def numOk (ns : List Int) : Bool := okRows ns && okMany ns && okCount ns && okLRows ns && decide (lrowsM ns = rowsM ns) && decide (manyM ns = ((lrowsM ns).length : Int)) && decide (countM ns = ((lrowsM ns).length : Int)) &&
  decide (lrowsM ns ≠ []) && decide (ns.length < 10) && (lrowsM ns).all fun r => rowOk ns.length (turn1 r)
theorem nums_ok : numsM.all numOk = true := by decide +kernel
end Rw

namespace Rw
open PySem PySem.Spec PyProof.Rows L2 Mth

/-! ### expressions that give data and change nothing that stood -/
structure Gv (te : TE) (d : PyData) (σ : L2.St) (B : Hp) : Prop where
  run : ∀ H, Same B H → ∀ Q : VK, (∀ v H', Same H H' → Dr H' d v → Q v H') → te σ H Q
structure GvA (ta : TA) (ds : List PyData) (σ : L2.St) (B : Hp) : Prop where
  run : ∀ H, Same B H → ∀ Q : List V → Hp → Prop, (∀ vs H', Same H H' → DrAll H' ds vs → Q vs H') → ta σ H Q
section
variable {te : TE} {ta : TA} {d d1 d2 : PyData} {ds es : List PyData} {σ : L2.St} {B : Hp}
theorem gv_int {i : Int} : Gv (tC (.int i)) (.int i) σ B := ⟨fun H _ Q q => q _ _ (Same.refl _) rfl⟩
theorem gv_bl {b : Bool} : Gv (tC (.bl b)) (.bool b) σ B := ⟨fun H _ Q q => q _ _ (Same.refl _) rfl⟩
theorem gv_non : Gv (tC .non) .none σ B := ⟨fun H _ Q q => q _ _ (Same.refl _) rfl⟩
theorem gv_neg {i : Int} : Gv (tUn (rU fun i => .int (-i)) (tC (.int i))) (.int (-i)) σ B := ⟨fun H _ Q q => ⟨_, rfl, q _ _ (Same.refl _) rfl⟩⟩
theorem gv_var {i : Nat} {v : V} (h : σ[i]? = some (some v)) (r : Dr B d v) : Gv (tVar i) d σ B := ⟨fun H e Q q => ⟨v, h, q _ _ (Same.refl _) (Dr.sm e _ _ r)⟩⟩
theorem gvA_nil : GvA tNil [] σ B := ⟨fun H _ Q q => q _ _ (Same.refl _) rfl⟩
theorem gvA_cons (h : Gv te d σ B) (t : GvA ta ds σ B) : GvA (tCons te ta) (d :: ds) σ B :=
  ⟨fun H e Q q => h.run H e _ fun v H1 g1 r1 => t.run H1 (e.trans g1) _ fun vs H2 g2 r2 => q _ _ (g1.trans g2) ⟨v, vs, rfl, Dr.sm g2 _ _ r1, r2⟩⟩
theorem gv_tup (h : GvA ta ds σ B) (hl : ds.length ≤ 1000 := by decide) : Gv (tTup ta) (.tuple ds) σ B :=
  ⟨fun H e Q q => h.run H e _ fun vs H1 g1 r1 => ⟨by rw [drAll_len r1, sizeLine_eq]; omega, fun p hp => q _ _ (g1.trans (same_new hp _)) ⟨p, vs, rfl, upd_same, DrAll.sm (same_new hp _) _ _ r1⟩⟩⟩
theorem gv_lst (h : GvA ta ds σ B) (hl : ds.length ≤ 1000 := by decide) : Gv (tLst ta) (.list ds) σ B :=
  ⟨fun H e Q q => h.run H e _ fun vs H1 g1 r1 => ⟨by rw [drAll_len r1, sizeLine_eq]; omega, fun p hp => q _ _ (g1.trans (same_new hp _)) ⟨p, vs, rfl, upd_same, DrAll.sm (same_new hp _) _ _ r1⟩⟩⟩
theorem drAll_app {H : Hp} : ∀ {ds es : List PyData} {vs ws : List V}, DrAll H ds vs → DrAll H es ws → DrAll H (ds ++ es) (vs ++ ws)
  | [], es, vs, ws, h, h' => by rw [show vs = [] from h]; exact h'
  | d :: ds, es, _, ws, h, h' => by
    obtain ⟨v, r, rfl, h1, h2⟩ := h
    exact ⟨v, r ++ ws, rfl, h1, drAll_app h2 h'⟩
theorem gv_cat {tb : TE} (h : Gv te (.list ds) σ B) (h' : Gv tb (.list es) σ B) (hl : ds.length + es.length ≤ 1000 := by decide) : Gv (tOp rCat te tb) (.list (ds ++ es)) σ B :=
  ⟨fun H e Q q => h.run H e _ fun v H1 g1 r1 => h'.run H1 (e.trans g1) _ fun u H2 g2 r2 => by
    obtain ⟨a, vs, rfl, ha, hv⟩ := Dr.sm g2 _ _ r1
    obtain ⟨b, ws, rfl, hb, hw⟩ := r2
    have l1 := drAll_len hv
    have l2 := drAll_len hw
    exact ⟨a, b, vs, ws, rfl, rfl, ha, hb, by rw [sizeLine_eq]; omega, fun p hp => q _ _ (g1.trans (g2.trans (same_new hp _))) ⟨p, _, rfl, upd_same, DrAll.sm (same_new hp _) _ _ (drAll_app hv hw)⟩⟩⟩
theorem dr1 {H : Hp} {vs : List V} (h : DrAll H [d] vs) : ∃ v, vs = [v] ∧ Dr H d v := by
  obtain ⟨v, r, rfl, h1, h2⟩ := h
  rw [show r = [] from h2]
  exact ⟨v, rfl, h1⟩
theorem dr2 {H : Hp} {vs : List V} (h : DrAll H [d1, d2] vs) : ∃ v u, vs = [v, u] ∧ Dr H d1 v ∧ Dr H d2 u := by
  obtain ⟨v, r, rfl, h1, h2⟩ := h
  obtain ⟨u, rfl, h3⟩ := dr1 h2
  exact ⟨v, u, rfl, h1, h3⟩
theorem gv_rows {ns : List Int} (rs : List (List Int)) (h : GvA ta [d] σ B) (ho : okD d 7 = true) (e : tupledD d = tI ns) (hk : okRows ns = true) (hr : rowsM ns = rs) : Gv (tFn sp_rows ta) (lR rs) σ B :=
  ⟨fun H g Q q => h.run H g _ fun vs H1 g1 r1 => by
    obtain ⟨v, rfl, h1⟩ := dr1 r1
    exact ⟨v, rfl, d, ns, h1, ho, e, hk, fun u H2 g2 r => q _ _ (g1.trans g2) (dr_LT.mpr (by rw [hr] at r; exact r))⟩⟩
theorem gv_many {ns : List Int} (m : Int) (h : GvA ta [d] σ B) (ho : okD d 7 = true) (e : tupledD d = tI ns) (hk : okMany ns = true) (hr : manyM ns = m) : Gv (tFn sp_many_rows ta) (.int m) σ B :=
  ⟨fun H g Q q => h.run H g _ fun vs H1 g1 r1 => by
    obtain ⟨v, rfl, h1⟩ := dr1 r1
    exact ⟨v, rfl, d, ns, h1, ho, e, hk, fun H2 g2 => q _ _ (g1.trans g2) (congrArg V.int hr)⟩⟩
theorem gv_led {row ms : List Int} (rs : List (List Int)) (h : GvA ta [d1, d2] σ B) (ho1 : okD d1 7 = true) (e1 : tupledD d1 = tI row) (hw : isWordI row = true) (ho2 : okD d2 7 = true) (e2 : tupledD d2 = tI ms) (hne : ms ≠ []) (hm : maxM row + 1 = (ms.length : Int)) (hk : okLedB row ms.length = true)
    (hr : ledRowM row ms = rs) : Gv (tFn sp_led_train ta) (tR rs) σ B :=
  ⟨fun H g Q q => h.run H g _ fun vs H1 g1 r1 => by
    obtain ⟨v, u, rfl, h1, h2⟩ := dr2 r1
    exact ⟨v, u, rfl, d1, d2, row, ms, h1, ho1, e1, hw, h2, ho2, e2, hne, hm, okLed_of hk, fun w H2 g2 r => q _ _ (g1.trans g2) (dr_TT.mpr (by rw [hr] at r; exact r))⟩⟩
def wheelB (ns : List Int) : Bool := decide (ns ≠ []) && (List.range (ns.length - 1)).all (fun i => decide (ns.getD i 0 ≤ ns.getD (i + 1) 0)) && decide (ns.getD (ns.length - 1) 0 ≤ ns.getD 0 0 + (ns.length : Int))
theorem wheel_of {ns : List Int} (h : wheelB ns = true) : wheelP ns := by
  unfold wheelB at h
  simp only [Bool.and_eq_true, List.all_eq_true, decide_eq_true_eq, List.mem_range] at h
  obtain ⟨⟨a, b⟩, c⟩ := h
  exact ⟨a, fun i hi => b i (by omega), c⟩
def trainB (rs : List (List Int)) : Bool := decide (rs ≠ []) && decide (rs.length < 1000) && rs.all (fun r => wheelB r && decide (r.length < 1000) && decide (r.length = (rs.getD 0 []).length))
theorem train_of {rs : List (List Int)} (h : trainB rs = true) : trainP rs := by
  unfold trainB at h
  simp only [Bool.and_eq_true, List.all_eq_true, decide_eq_true_eq] at h
  obtain ⟨⟨a, b⟩, c⟩ := h
  exact ⟨a, b, fun r hr => ⟨wheel_of (c r hr).1.1, (c r hr).1.2⟩, fun r hr => (c r hr).2⟩
theorem gv_row_of {rs : List (List Int)} (r : List Int) (h : GvA ta [d] σ B) (ho : okD d 7 = true) (e : tupledD d = tR rs) (ht : trainB rs = true) (hz : (rs.getD 0 []).length * rs.length < 1000) (hr : rowOfM rs = r) : Gv (tFn sp_row_of ta) (tI r) σ B :=
  ⟨fun H g Q q => h.run H g _ fun vs H1 g1 r1 => by
    obtain ⟨v, rfl, h1⟩ := dr1 r1
    exact ⟨v, rfl, d, rs, h1, ho, e, train_of ht, hz, fun u H2 g2 t => q _ _ (g1.trans g2) (dr_TI.mpr (by rw [hr] at t; exact t))⟩⟩
theorem gv_lists (h : GvA ta [d] σ B) (ho : okD d 7 = true) : Gv (tFn sp_lists_L ta) (listsD d) σ B :=
  ⟨fun H g Q q => h.run H g _ fun vs H1 g1 r1 => by
    obtain ⟨v, rfl, h1⟩ := dr1 r1
    exact ⟨v, rfl, d, h1, ho, fun u H2 g2 r => q _ _ (g1.trans g2) (Dr.sm newOf_le _ _ r)⟩⟩
/-- [is_row(x) for x in (..)] -/
theorem gv_isrow {K : PySem.W.Frag} {j : Nat} (h : GvA ta ds σ B) (ho : okDs ds 7 = true) (hl : ds.length ≤ 1000) (hw : ∀ x, wipe ((wipe σ [j]).set j x) [j] = wipe σ [j]) (hg : ∀ x, ((wipe σ [j]).set j (some x))[j]? = some (some x)) :
    Gv (tLcS (iTup K (tTup ta)) (gName j) tYes (tFn sp_is_row (tCons (tVar j) tNil)) [j]) (.list (ds.map fun d => .bool (isWordD d))) σ B :=
  ⟨fun H e Q q => h.run H e _ fun vs H1 g1 r1 => by
    have hl1 := drAll_len r1
    refine ⟨by rw [hl1, sizeLine_eq]; omega, fun p hp => ⟨p, rfl, ⟨_, SqT.of upd_same⟩, PyData, rD, _, _, _, fun i => some (.bool (isWordD (ds.getD i .none))), src_tup (xs := vs), by omega, fun H' g => SqT.of (g _ _ upd_same), fun i hi => hw _,
      fun i hi H' g Q' q' => q' H' (Same.refl _), .inl ⟨sm_D, fun i b hi hb H' D g hD _ Q' q' => ?_⟩, fun D ys H2 hD g2 hY _ hp2 => ?_⟩⟩
    · exact ⟨_, hg _, _, rfl, _, Dr.sm ((same_new hp _).trans g) _ _ (drAll_getD r1 (i := i) (by omega)), okDs_getD ho (i := i) (by omega), fun H3 g3 => q' _ _ g3 (by rw [← Option.some.inj hb]; rfl)⟩
    · rw [hl1, fm_all ds .none (fun d => some (PyData.bool (isWordD d))), fm_some] at hp2
      exact q _ _ (g1.trans ((same_new hp _).trans g2)) ⟨D, ys, rfl, hY, drAll_paired hp2⟩⟩
theorem go_asg {i : Nat} {H : Hp} {u : TS} {D : Ends} (h : Gv te d σ H) (k : ∀ v H', Same H H' → Dr H' d v → u D (σ.set i (some v)) H') : tSeq (tAsg te (gName i)) u D σ H := h.run H (Same.refl _) _ k
theorem go_ret {sp : Sp} {H : Hp} {D : Ends} (h : GvA ta ds σ H) (k : ∀ vs H', Same H H' → DrAll H' ds vs → sp vs H' D.rt E0) : tRet (tFn sp ta) D σ H := h.run H (Same.refl _) _ k
end
end Rw

namespace Rw
open PySem PySem.Spec PyProof.Rows L2 Mth

/-! ### the examples, by hand -/
def sp_by_hand_right_L : Sp := fun vs H Q _ => vs = [] ∧ ∀ H', Same H H' → Q (.bl true) H'
abbrev N_by_hand_right_L : List Str := ["_law_got", "_law_due", "_law_train_so", "_law_own"]
abbrev s_by_hand_right_L : Stmt := topS 62
theorem sc_by_hand_right_L : FnScope N_by_hand_right_L [] (defScope s_by_hand_right_L) := ⟨rfl, rfl, rfl, by decide +kernel, rfl, by decide +kernel, by decide +kernel⟩
theorem ok_by_hand_right_L {P : Program} {w : World} {K : PySem.W.Frag} {mg : Str → Option Value} {base : Heap} (Tt : Tx K mg "_law_by_hand_right" s_by_hand_right_L []) (Bt : Bi mg) (F_rows : Fd P w K mg base "rows" 1 10 sp_rows) (FK_rows : FdK P w K mg base "rows" ["numbers"] 10 sp_rows) (F_many_rows : Fd P w K mg base "many_rows" 1 10 sp_many_rows) (FK_many_rows : FdK P w K mg base "many_rows" ["numbers"] 10 sp_many_rows) (F_led_train : Fd P w K mg base "led_train" 2 11 sp_led_train) (FK_led_train : FdK P w K mg base "led_train" ["row", "numbers"] 11 sp_led_train) (F_row_of : Fd P w K mg base "row_of" 1 10 sp_row_of) (FK_row_of : FdK P w K mg base "row_of" ["train"] 10 sp_row_of) (F_lists_L : Fd P w K mg base "_law_lists" 1 8 sp_lists_L) (F_is_row : Fd P w K mg base "is_row" 1 4 sp_is_row) (F_same_L : Fd P w K mg base "_law_same" 2 8 sp_same_L) :
    Fd P w K mg base "_law_by_hand_right" 0 12 sp_by_hand_right_L := by
  refine Tt.ok sc_by_hand_right_L (fun vs H Q E h => ?_) (fun f cdv A outer s H vs Q E hr h => ?_)
  · obtain ⟨rfl, _⟩ := h
    rfl
  obtain ⟨rfl, q⟩ := h
  refine ⟨_, pss_cons (ps_set (i := 0) sc_by_hand_right_L.nd rfl (Or.inl rfl) (pe_lst (pa_cons (pe_fn F_rows hr (by decide) rfl (pa_cons (pe_tup (pa_cons (pe_int) (pa_cons (pe_int) (pa_nil)))) (pa_nil))) (pa_cons (pe_fnK FK_rows hr (by decide) rfl (pk_cons (pe_lst (pa_cons (pe_int) (pa_cons (pe_int) (pa_nil)))) (pk_nil))) (pa_cons (pe_fn F_rows hr (by decide) rfl (pa_cons (pe_tup (pa_cons (pe_int) (pa_cons (pe_int) (pa_cons (pe_int) (pa_nil))))) (pa_nil))) (pa_cons (pe_fn F_many_rows hr (by decide) rfl (pa_cons (pe_tup (pa_cons (pe_int) (pa_cons (pe_int) (pa_nil)))) (pa_nil))) (pa_cons (pe_fnK FK_many_rows hr (by decide) rfl (pk_cons (pe_lst (pa_cons (pe_int) (pa_cons (pe_int) (pa_cons (pe_int) (pa_nil))))) (pk_nil))) (pa_cons (pe_fn F_many_rows hr (by decide) rfl (pa_cons (pe_tup (pa_cons (pe_int) (pa_nil))) (pa_nil))) (pa_cons (pe_fn F_rows hr (by decide) rfl (pa_cons (pe_tup (pa_cons (pe_int) (pa_nil))) (pa_nil))) (pa_nil))))))))))
    (pss_cons (ps_set (i := 1) sc_by_hand_right_L.nd rfl (Or.inl rfl) (pe_lst (pa_cons (pe_lst (pa_cons (pe_tup (pa_cons (pe_int) (pa_cons (pe_int) (pa_cons (pe_int) (pa_cons (pe_int) (pa_nil)))))) (pa_cons (pe_tup (pa_cons (pe_int) (pa_cons (pe_int) (pa_cons (pe_int) (pa_cons (pe_int) (pa_nil)))))) (pa_nil)))) (pa_cons (pe_lst (pa_cons (pe_tup (pa_cons (pe_int) (pa_cons (pe_int) (pa_cons (pe_int) (pa_nil))))) (pa_nil))) (pa_cons (pe_lst (pa_cons (pe_tup (pa_cons (pe_int) (pa_cons (pe_int) (pa_cons (pe_int) (pa_cons (pe_int) (pa_nil)))))) (pa_cons (pe_tup (pa_cons (pe_int) (pa_cons (pe_int) (pa_cons (pe_int) (pa_cons (pe_int) (pa_nil)))))) (pa_cons (pe_tup (pa_cons (pe_int) (pa_cons (pe_int) (pa_cons (pe_int) (pa_cons (pe_int) (pa_nil)))))) (pa_nil))))) (pa_cons (pe_int) (pa_cons (pe_int) (pa_cons (pe_int) (pa_cons (pe_lst (pa_cons (pe_tup (pa_cons (pe_int) (pa_cons (pe_int) (pa_cons (pe_int) (pa_nil))))) (pa_nil))) (pa_nil))))))))))
    (pss_cons (ps_set (i := 0) sc_by_hand_right_L.nd rfl (Or.inl rfl) (pe_op op_cat (pv 0) (pe_lst (pa_cons (pe_fn F_led_train hr (by decide) rfl (pa_cons (pe_tup (pa_cons (pe_int) (pa_cons (pe_int) (pa_cons (pe_int) (pa_cons (pe_int) (pa_nil)))))) (pa_cons (pe_tup (pa_cons (pe_int) (pa_cons (pe_int) (pa_nil)))) (pa_nil)))) (pa_cons (pe_fnK FK_led_train hr (by decide) rfl (pk_cons (pe_lst (pa_cons (pe_int) (pa_cons (pe_int) (pa_cons (pe_int) (pa_cons (pe_int) (pa_nil)))))) (pk_cons (pe_lst (pa_cons (pe_int) (pa_cons (pe_int) (pa_nil)))) (pk_nil)))) (pa_cons (pe_fn F_led_train hr (by decide) rfl (pa_cons (pe_tup (pa_cons (pe_int) (pa_cons (pe_int) (pa_nil)))) (pa_cons (pe_tup (pa_cons (pe_int) (pa_cons (pe_int) (pa_nil)))) (pa_nil)))) (pa_cons (pe_fn F_led_train hr (by decide) rfl (pa_cons (pe_tup (pa_cons (pe_int) (pa_cons (pe_int) (pa_nil)))) (pa_cons (pe_tup (pa_cons (pe_un un_neg (pe_int)) (pa_cons (pe_int) (pa_nil)))) (pa_nil)))) (pa_nil))))))))
    (pss_cons (ps_set (i := 1) sc_by_hand_right_L.nd rfl (Or.inl rfl) (pe_op op_cat (pv 1) (pe_lst (pa_cons (pe_tup (pa_cons (pe_tup (pa_cons (pe_int) (pa_cons (pe_int) (pa_cons (pe_int) (pa_cons (pe_int) (pa_nil)))))) (pa_cons (pe_tup (pa_cons (pe_int) (pa_cons (pe_int) (pa_cons (pe_int) (pa_cons (pe_int) (pa_nil)))))) (pa_nil)))) (pa_cons (pe_tup (pa_cons (pe_tup (pa_cons (pe_int) (pa_cons (pe_int) (pa_cons (pe_int) (pa_cons (pe_int) (pa_nil)))))) (pa_cons (pe_tup (pa_cons (pe_int) (pa_cons (pe_int) (pa_cons (pe_int) (pa_cons (pe_int) (pa_nil)))))) (pa_nil)))) (pa_cons (pe_tup (pa_cons (pe_tup (pa_cons (pe_int) (pa_cons (pe_int) (pa_nil)))) (pa_cons (pe_tup (pa_cons (pe_int) (pa_cons (pe_int) (pa_nil)))) (pa_nil)))) (pa_cons (pe_tup (pa_cons (pe_tup (pa_cons (pe_un un_neg (pe_int)) (pa_cons (pe_int) (pa_nil)))) (pa_cons (pe_tup (pa_cons (pe_int) (pa_cons (pe_int) (pa_nil)))) (pa_nil)))) (pa_nil))))))))
    (pss_cons (ps_set (i := 2) sc_by_hand_right_L.nd rfl (Or.inl rfl) (pe_tup (pa_cons (pe_tup (pa_cons (pe_int) (pa_cons (pe_int) (pa_cons (pe_int) (pa_cons (pe_int) (pa_cons (pe_int) (pa_nil))))))) (pa_cons (pe_tup (pa_cons (pe_int) (pa_cons (pe_int) (pa_cons (pe_int) (pa_cons (pe_int) (pa_cons (pe_int) (pa_nil))))))) (pa_nil)))))
    (pss_cons (ps_set (i := 0) sc_by_hand_right_L.nd rfl (Or.inl rfl) (pe_op op_cat (pv 0) (pe_lst (pa_cons (pe_fn F_row_of hr (by decide) rfl (pa_cons (pv 2) (pa_nil))) (pa_cons (pe_fnK FK_row_of hr (by decide) rfl (pk_cons (pe_fn F_lists_L hr (by decide) rfl (pa_cons (pv 2) (pa_nil))) (pk_nil))) (pa_cons (pe_fn F_row_of hr (by decide) rfl (pa_cons (pe_tup (pa_cons (pe_tup (pa_cons (pe_int) (pa_cons (pe_int) (pa_cons (pe_int) (pa_nil))))) (pa_cons (pe_tup (pa_cons (pe_int) (pa_cons (pe_int) (pa_cons (pe_int) (pa_nil))))) (pa_cons (pe_tup (pa_cons (pe_int) (pa_cons (pe_int) (pa_cons (pe_int) (pa_nil))))) (pa_nil))))) (pa_nil))) (pa_nil)))))))
    (pss_cons (ps_set (i := 1) sc_by_hand_right_L.nd rfl (Or.inl rfl) (pe_op op_cat (pv 1) (pe_lst (pa_cons (pe_tup (pa_cons (pe_int) (pa_cons (pe_int) (pa_nil)))) (pa_cons (pe_tup (pa_cons (pe_int) (pa_cons (pe_int) (pa_nil)))) (pa_cons (pe_tup (pa_cons (pe_int) (pa_cons (pe_int) (pa_cons (pe_int) (pa_nil))))) (pa_nil)))))))
    (pss_cons (ps_set (i := 0) sc_by_hand_right_L.nd rfl (Or.inl rfl) (pe_op op_cat (pv 0) (pe_lst (pa_cons (pe_lcS (own := [("_law_own", 3)]) rfl sc_by_hand_right_L.nd (k_tup K (pe_tup (pa_cons (pe_tup (pa_cons (pe_int) (pa_cons (pe_int) (pa_cons (pe_int) (pa_nil))))) (pa_cons (pe_tup (pa_cons (pe_int) (pa_nil))) (pa_cons (pe_tup (pa_cons (pe_int) (pa_cons (pe_int) (pa_nil)))) (pa_cons (pe_tup (pa_nil)) (pa_cons (pe_lst (pa_cons (pe_int) (pa_cons (pe_int) (pa_nil)))) (pa_cons (pe_tup (pa_cons (pe_bl) (pa_cons (pe_int) (pa_nil)))) (pa_cons (pe_non) (pa_cons (pe_tup (pa_cons (pe_int) (pa_cons (pe_int) (pa_cons (pe_int) (pa_nil))))) (pa_nil))))))))))) (blkOk_by (N := N_by_hand_right_L) (sc := defScope s_by_hand_right_L) (by decide +kernel)) (fun _ _ _ _ _ => pg_name (i := 3) sc_by_hand_right_L.nd rfl (Or.inl rfl)) (fun _ _ _ _ _ => pts_nil) (fun _ _ _ _ _ => pe_fn F_is_row hr (by decide) rfl (pa_cons (pv 3) (pa_nil)))) (pa_nil)))))
    (pss_one (ps_ret (pe_fn F_same_L hr (by decide) rfl (pa_cons (pv 0) (pa_cons (pe_op op_cat (pv 1) (pe_lst (pa_cons (pe_lst (pa_cons (pe_bl) (pa_cons (pe_bl) (pa_cons (pe_bl) (pa_cons (pe_bl) (pa_cons (pe_bl) (pa_cons (pe_bl) (pa_cons (pe_bl) (pa_cons (pe_bl) (pa_nil)))))))))) (pa_nil)))) (pa_nil))))))))))))), ?_⟩
  refine go_asg (gv_lst (gvA_cons (gv_rows (ns := [2, 2]) [[0, 0, 1, 1], [0, 1, 0, 1]] (gvA_cons (gv_tup (gvA_cons gv_int (gvA_cons gv_int gvA_nil))) gvA_nil) (by rfl) (by rfl) (by decide +kernel) (by decide +kernel)) (gvA_cons (gv_rows (ns := [2, 1]) [[0, 0, 1]] (gvA_cons (gv_lst (gvA_cons gv_int (gvA_cons gv_int gvA_nil))) gvA_nil) (by rfl) (by rfl) (by decide +kernel) (by decide +kernel)) (gvA_cons (gv_rows (ns := [1, 2, 1]) [[0, 1, 1, 2], [0, 1, 2, 1], [0, 2, 1, 1]] (gvA_cons (gv_tup (gvA_cons gv_int (gvA_cons gv_int (gvA_cons gv_int gvA_nil)))) gvA_nil) (by rfl) (by rfl) (by decide +kernel) (by decide +kernel)) (gvA_cons (gv_many (ns := [4, 4]) 10 (gvA_cons (gv_tup (gvA_cons gv_int (gvA_cons gv_int gvA_nil))) gvA_nil) (by rfl) (by rfl) (by decide +kernel) (by decide +kernel)) (gvA_cons (gv_many (ns := [6, 6, 6]) 953056 (gvA_cons (gv_lst (gvA_cons gv_int (gvA_cons gv_int (gvA_cons gv_int gvA_nil)))) gvA_nil) (by rfl) (by rfl) (by decide +kernel) (by decide +kernel)) (gvA_cons (gv_many (ns := [24]) 1 (gvA_cons (gv_tup (gvA_cons gv_int gvA_nil)) gvA_nil) (by rfl) (by rfl) (by decide +kernel) (by decide +kernel)) (gvA_cons (gv_rows (ns := [3]) [[0, 0, 0]] (gvA_cons (gv_tup (gvA_cons gv_int gvA_nil)) gvA_nil) (by rfl) (by rfl) (by decide +kernel) (by decide +kernel)) gvA_nil)))))))) fun vg H1 g1 rg => ?_
  refine go_asg (gv_lst (gvA_cons (gv_lst (gvA_cons (gv_tup (gvA_cons gv_int (gvA_cons gv_int (gvA_cons gv_int (gvA_cons gv_int gvA_nil))))) (gvA_cons (gv_tup (gvA_cons gv_int (gvA_cons gv_int (gvA_cons gv_int (gvA_cons gv_int gvA_nil))))) gvA_nil))) (gvA_cons (gv_lst (gvA_cons (gv_tup (gvA_cons gv_int (gvA_cons gv_int (gvA_cons gv_int gvA_nil)))) gvA_nil)) (gvA_cons (gv_lst (gvA_cons (gv_tup (gvA_cons gv_int (gvA_cons gv_int (gvA_cons gv_int (gvA_cons gv_int gvA_nil))))) (gvA_cons (gv_tup (gvA_cons gv_int (gvA_cons gv_int (gvA_cons gv_int (gvA_cons gv_int gvA_nil))))) (gvA_cons (gv_tup (gvA_cons gv_int (gvA_cons gv_int (gvA_cons gv_int (gvA_cons gv_int gvA_nil))))) gvA_nil)))) (gvA_cons gv_int (gvA_cons gv_int (gvA_cons gv_int (gvA_cons (gv_lst (gvA_cons (gv_tup (gvA_cons gv_int (gvA_cons gv_int (gvA_cons gv_int gvA_nil)))) gvA_nil)) gvA_nil)))))))) fun vd H2 g2 rd => ?_
  replace rg := Dr.sm g2 _ _ rg
  refine go_asg (gv_cat (gv_var rfl rg) (gv_lst (gvA_cons (gv_led (row := [0, 0, 1, 1]) (ms := [1, 1]) [[1, 4, 5, 5], [3, 3, 3, 6]] (gvA_cons (gv_tup (gvA_cons gv_int (gvA_cons gv_int (gvA_cons gv_int (gvA_cons gv_int gvA_nil))))) (gvA_cons (gv_tup (gvA_cons gv_int (gvA_cons gv_int gvA_nil))) gvA_nil)) (by rfl) (by rfl) (by decide +kernel) (by rfl) (by rfl) (by decide) (by decide +kernel) (by decide +kernel) (by decide +kernel)) (gvA_cons (gv_led (row := [0, 1, 0, 1]) (ms := [1, 1]) [[2, 4, 4, 6], [3, 3, 5, 5]] (gvA_cons (gv_lst (gvA_cons gv_int (gvA_cons gv_int (gvA_cons gv_int (gvA_cons gv_int gvA_nil))))) (gvA_cons (gv_lst (gvA_cons gv_int (gvA_cons gv_int gvA_nil))) gvA_nil)) (by rfl) (by rfl) (by decide +kernel) (by rfl) (by rfl) (by decide) (by decide +kernel) (by decide +kernel) (by decide +kernel)) (gvA_cons (gv_led (row := [0, 1]) (ms := [1, 0]) [[2, 4], [1, 1]] (gvA_cons (gv_tup (gvA_cons gv_int (gvA_cons gv_int gvA_nil))) (gvA_cons (gv_tup (gvA_cons gv_int (gvA_cons gv_int gvA_nil))) gvA_nil)) (by rfl) (by rfl) (by decide +kernel) (by rfl) (by rfl) (by decide) (by decide +kernel) (by decide +kernel) (by decide +kernel)) (gvA_cons (gv_led (row := [0, 1]) (ms := [(-1), 0]) [[(-2), 0], [1, 1]] (gvA_cons (gv_tup (gvA_cons gv_int (gvA_cons gv_int gvA_nil))) (gvA_cons (gv_tup (gvA_cons gv_neg (gvA_cons gv_int gvA_nil))) gvA_nil)) (by rfl) (by rfl) (by decide +kernel) (by rfl) (by rfl) (by decide) (by decide +kernel) (by decide +kernel) (by decide +kernel)) gvA_nil)))))) fun vg2 H3 g3 rg2 => ?_
  replace rd := Dr.sm g3 _ _ rd
  refine go_asg (gv_cat (gv_var rfl rd) (gv_lst (gvA_cons (gv_tup (gvA_cons (gv_tup (gvA_cons gv_int (gvA_cons gv_int (gvA_cons gv_int (gvA_cons gv_int gvA_nil))))) (gvA_cons (gv_tup (gvA_cons gv_int (gvA_cons gv_int (gvA_cons gv_int (gvA_cons gv_int gvA_nil))))) gvA_nil))) (gvA_cons (gv_tup (gvA_cons (gv_tup (gvA_cons gv_int (gvA_cons gv_int (gvA_cons gv_int (gvA_cons gv_int gvA_nil))))) (gvA_cons (gv_tup (gvA_cons gv_int (gvA_cons gv_int (gvA_cons gv_int (gvA_cons gv_int gvA_nil))))) gvA_nil))) (gvA_cons (gv_tup (gvA_cons (gv_tup (gvA_cons gv_int (gvA_cons gv_int gvA_nil))) (gvA_cons (gv_tup (gvA_cons gv_int (gvA_cons gv_int gvA_nil))) gvA_nil))) (gvA_cons (gv_tup (gvA_cons (gv_tup (gvA_cons gv_neg (gvA_cons gv_int gvA_nil))) (gvA_cons (gv_tup (gvA_cons gv_int (gvA_cons gv_int gvA_nil))) gvA_nil))) gvA_nil)))))) fun vd2 H4 g4 rd2 => ?_
  refine go_asg (gv_tup (gvA_cons (gv_tup (gvA_cons gv_int (gvA_cons gv_int (gvA_cons gv_int (gvA_cons gv_int (gvA_cons gv_int gvA_nil)))))) (gvA_cons (gv_tup (gvA_cons gv_int (gvA_cons gv_int (gvA_cons gv_int (gvA_cons gv_int (gvA_cons gv_int gvA_nil)))))) gvA_nil))) fun vt H5 g5 rt => ?_
  replace rg2 := Dr.sm (g4.trans g5) _ _ rg2
  refine go_asg (gv_cat (gv_var rfl rg2) (gv_lst (gvA_cons (gv_row_of (rs := [[1, 1, 4, 5, 5], [0, 3, 3, 3, 4]]) [0, 1] (gvA_cons (gv_var rfl rt) gvA_nil) (by rfl) (by rfl) (by decide +kernel) (by decide) (by decide +kernel)) (gvA_cons (gv_row_of (rs := [[1, 1, 4, 5, 5], [0, 3, 3, 3, 4]]) [0, 1] (gvA_cons (gv_lists (gvA_cons (gv_var rfl rt) gvA_nil) (by rfl)) gvA_nil) (by rfl) (by rfl) (by decide +kernel) (by decide) (by decide +kernel)) (gvA_cons (gv_row_of (rs := [[2, 2, 2], [0, 1, 2], [4, 4, 4]]) [0, 1, 2] (gvA_cons (gv_tup (gvA_cons (gv_tup (gvA_cons gv_int (gvA_cons gv_int (gvA_cons gv_int gvA_nil)))) (gvA_cons (gv_tup (gvA_cons gv_int (gvA_cons gv_int (gvA_cons gv_int gvA_nil)))) (gvA_cons (gv_tup (gvA_cons gv_int (gvA_cons gv_int (gvA_cons gv_int gvA_nil)))) gvA_nil)))) gvA_nil) (by rfl) (by rfl) (by decide +kernel) (by decide) (by decide +kernel)) gvA_nil))))) fun vg3 H6 g6 rg3 => ?_
  replace rd2 := Dr.sm (g5.trans g6) _ _ rd2
  refine go_asg (gv_cat (gv_var rfl rd2) (gv_lst (gvA_cons (gv_tup (gvA_cons gv_int (gvA_cons gv_int gvA_nil))) (gvA_cons (gv_tup (gvA_cons gv_int (gvA_cons gv_int gvA_nil))) (gvA_cons (gv_tup (gvA_cons gv_int (gvA_cons gv_int (gvA_cons gv_int gvA_nil)))) gvA_nil))))) fun vd3 H7 g7 rd3 => ?_
  replace rg3 := Dr.sm g7 _ _ rg3
  refine go_asg (gv_cat (gv_var rfl rg3) (gv_lst (gvA_cons (gv_isrow (gvA_cons (gv_tup (gvA_cons gv_int (gvA_cons gv_int (gvA_cons gv_int gvA_nil)))) (gvA_cons (gv_tup (gvA_cons gv_int gvA_nil)) (gvA_cons (gv_tup (gvA_cons gv_int (gvA_cons gv_int gvA_nil))) (gvA_cons (gv_tup gvA_nil) (gvA_cons (gv_lst (gvA_cons gv_int (gvA_cons gv_int gvA_nil))) (gvA_cons (gv_tup (gvA_cons gv_bl (gvA_cons gv_int gvA_nil))) (gvA_cons gv_non (gvA_cons (gv_tup (gvA_cons gv_int (gvA_cons gv_int (gvA_cons gv_int gvA_nil)))) gvA_nil)))))))) (by rfl) (by decide) (fun _ => rfl) (fun _ => rfl)) gvA_nil))) fun vg4 H8 g8 rg4 => ?_
  replace rd3 := Dr.sm g8 _ _ rd3
  refine go_ret (gvA_cons (gv_var rfl rg4) (gvA_cons (gv_cat (gv_var rfl rd3) (gv_lst (gvA_cons (gv_lst (gvA_cons gv_bl (gvA_cons gv_bl (gvA_cons gv_bl (gvA_cons gv_bl (gvA_cons gv_bl (gvA_cons gv_bl (gvA_cons gv_bl (gvA_cons gv_bl gvA_nil))))))))) gvA_nil))) gvA_nil)) fun vs H9 g9 r9 => ?_
  obtain ⟨v, u, rfl, h1, h2⟩ := dr2 r9
  exact ⟨v, u, rfl, _, h1, h2, by rfl, fun H10 g10 => q _ (g1.trans (g2.trans (g3.trans (g4.trans (g5.trans (g6.trans (g7.trans (g8.trans (g9.trans g10)))))))))⟩
end Rw

namespace Rw
open PySem PySem.Spec PyProof.Rows L2 Mth

/-! ### data of rows -/
theorem okDs_all {ds : List PyData} {n : Nat} (h : ∀ d ∈ ds, okD d n = true) : okDs ds n = true := by
  induction ds with
  | nil => rfl
  | cons d ds ih =>
    rw [okDs, h d List.mem_cons_self, ih fun x hx => h x (List.mem_cons_of_mem _ hx)]
    rfl
theorem okDs_ints (ns : List Int) (n : Nat) : okDs (ns.map PyData.int) n = true := okDs_all fun d hd => by
  obtain ⟨i, _, rfl⟩ := List.mem_map.mp hd
  rfl
theorem okD_tI {ns : List Int} {n : Nat} (h : ns.length < 1000) : okD (tI ns) (n + 1) = true := by
  show (decide ((ns.map PyData.int).length < 1000) && okDs (ns.map PyData.int) n) = true
  rw [okDs_ints, List.length_map, decide_eq_true h]
  rfl
theorem okD_lI {ns : List Int} {n : Nat} (h : ns.length < 1000) : okD (lI ns) (n + 1) = true := by
  show (decide ((ns.map PyData.int).length < 1000) && okDs (ns.map PyData.int) n) = true
  rw [okDs_ints, List.length_map, decide_eq_true h]
  rfl
theorem okD_tR {rs : List (List Int)} {n : Nat} (h : rs.length < 1000) (h2 : ∀ r ∈ rs, r.length < 1000) : okD (tR rs) (n + 2) = true := by
  show (decide ((rs.map tI).length < 1000) && okDs (rs.map tI) (n + 1)) = true
  rw [okDs_all fun d hd => by
    obtain ⟨r, hr, rfl⟩ := List.mem_map.mp hd
    exact okD_tI (h2 r hr), List.length_map, decide_eq_true h]
  rfl
theorem okD_lR {rs : List (List Int)} {n : Nat} (h : rs.length < 1000) (h2 : ∀ r ∈ rs, r.length < 1000) : okD (lR rs) (n + 2) = true := by
  show (decide ((rs.map tI).length < 1000) && okDs (rs.map tI) (n + 1)) = true
  rw [okDs_all fun d hd => by
    obtain ⟨r, hr, rfl⟩ := List.mem_map.mp hd
    exact okD_tI (h2 r hr), List.length_map, decide_eq_true h]
  rfl
theorem tupled_ints (ns : List Int) : tupledDs (ns.map PyData.int) = ns.map PyData.int := by
  rw [tupledDs_map, List.map_map]
  exact List.map_congr_left fun i _ => rfl
theorem tupled_tI (ns : List Int) : tupledD (tI ns) = tI ns := by
  show PyData.tuple (tupledDs (ns.map PyData.int)) = _
  rw [tupled_ints]
  rfl
theorem tupled_lI (ns : List Int) : tupledD (lI ns) = tI ns := by
  show PyData.tuple (tupledDs (ns.map PyData.int)) = _
  rw [tupled_ints]
  rfl
theorem lists_ints (ns : List Int) : listsDs (ns.map PyData.int) = ns.map PyData.int := by
  rw [listsDs_map, List.map_map]
  exact List.map_congr_left fun i _ => rfl
theorem lists_tR (rs : List (List Int)) : listsD (tR rs) = .list (rs.map lI) := by
  show PyData.list (listsDs (rs.map tI)) = _
  rw [listsDs_map, List.map_map]
  congr 1
  refine List.map_congr_left fun r _ => ?_
  show PyData.list (listsDs (r.map PyData.int)) = _
  rw [lists_ints]
  rfl
theorem tupled_lL (rs : List (List Int)) : tupledD (.list (rs.map lI)) = tR rs := by
  show PyData.tuple (tupledDs (rs.map lI)) = _
  rw [tupledDs_map, List.map_map]
  unfold tR
  congr 1
  exact List.map_congr_left fun r _ => tupled_lI r
theorem okD_lL {rs : List (List Int)} {n : Nat} (h : rs.length < 1000) (h2 : ∀ r ∈ rs, r.length < 1000) : okD (.list (rs.map lI)) (n + 2) = true := by
  show (decide ((rs.map lI).length < 1000) && okDs (rs.map lI) (n + 1)) = true
  rw [okDs_all fun d hd => by
    obtain ⟨r, hr, rfl⟩ := List.mem_map.mp hd
    exact okD_lI (h2 r hr), List.length_map, decide_eq_true h]
  rfl
section
variable {te : TE} {ta : TA} {d d1 d2 : PyData} {ds es : List PyData} {σ : L2.St} {B : Hp}
theorem gv_to {d' : PyData} (h : Gv te d σ B) (e : d = d') : Gv te d' σ B := by rw [← e]; exact h
theorem gv_list {K : PySem.W.Frag} (h : Gv te (.tuple ds) σ B) : Gv (tCB (fun xs H Q => ∃ p ys, xs = [V.ref p] ∧ (SqL K H p ys ∨ SqT K H p ys) ∧ ∀ (l : Addr), H l = none → Q (V.ref l) (upd H l (HO.lst ys))) (tCons te tNil)) (.list ds) σ B :=
  ⟨fun H g Q q => h.run H g _ fun v H1 g1 r1 => by
    obtain ⟨a, vs, rfl, ha, hd⟩ := r1
    exact ⟨a, vs, rfl, .inr (SqT.of ha), fun l hl => q _ _ (g1.trans (same_new hl _)) ⟨l, vs, rfl, upd_same, DrAll.sm (same_new hl _) _ _ hd⟩⟩⟩
theorem gv_len {K : PySem.W.Frag} {n : Nat} (h : Gv te (.list ds) σ B) (e : ds.length = n) : Gv (tCB (fun xs H Q => ∃ p ys n, xs = [V.ref p] ∧ (SqL K H p ys ∨ SqT K H p ys) ∧ n = ys.length ∧ Q (V.int ((n : Nat) : Int)) H) (tCons te tNil)) (.int (n : Nat)) σ B :=
  ⟨fun H g Q q => h.run H g _ fun v H1 g1 r1 => by
    obtain ⟨a, vs, rfl, ha, hd⟩ := r1
    exact ⟨a, vs, n, rfl, .inl (SqL.of ha), by rw [drAll_len hd, e], q _ _ g1 rfl⟩⟩
theorem gv_count {ns : List Int} (m : Int) (h : GvA ta [tI ns] σ B) (hk : okCount ns = true) (hr : countM ns = m) : Gv (tFn sp_count_L ta) (.int m) σ B :=
  ⟨fun H g Q q => h.run H g _ fun vs H1 g1 r1 => by
    obtain ⟨v, rfl, h1⟩ := dr1 r1
    exact ⟨v, rfl, ns, dr_TI.mp h1, hk, fun H2 g2 => q _ _ (g1.trans g2) (congrArg V.int hr)⟩⟩
theorem gv_disks {row ms : List Int} (h : GvA ta [tI row, tI ms] σ B) (hk : okLed row ms.length) : Gv (tFn sp_led_disks_L ta) (tR (ledRowM row ms)) σ B :=
  ⟨fun H g Q q => h.run H g _ fun vs H1 g1 r1 => by
    obtain ⟨v, u, rfl, h1, h2⟩ := dr2 r1
    exact ⟨v, u, rfl, row, ms, dr_TI.mp h1, dr_TI.mp h2, hk, fun w H2 g2 r => q _ _ (g1.trans g2) (dr_TT.mpr r)⟩⟩
theorem gv_rowT {rs : List (List Int)} (h : GvA ta [d] σ B) (ho : okD d 7 = true) (e : tupledD d = tR rs) (ht : trainP rs) (hz : (rs.getD 0 []).length * rs.length < 1000) : Gv (tFn sp_row_of ta) (tI (rowOfM rs)) σ B :=
  ⟨fun H g Q q => h.run H g _ fun vs H1 g1 r1 => by
    obtain ⟨v, rfl, h1⟩ := dr1 r1
    exact ⟨v, rfl, d, rs, h1, ho, e, ht, hz, fun u H2 g2 t => q _ _ (g1.trans g2) (dr_TI.mpr t)⟩⟩
theorem gv_own {rs : List (List Int)} (h : GvA ta [tR rs] σ B) (ht : trainP rs) (h64 : ∀ r ∈ rs, r.length < 64) (hz : (rs.getD 0 []).length * rs.length < 1000) : Gv (tFn sp_row_by_own_L ta) (tI (rowOfM rs)) σ B :=
  ⟨fun H g Q q => h.run H g _ fun vs H1 g1 r1 => by
    obtain ⟨v, rfl, h1⟩ := dr1 r1
    exact ⟨v, rfl, rs, dr_TT.mp h1, ht, h64, hz, fun u H2 g2 t => q _ _ (g1.trans g2) (dr_TI.mpr t)⟩⟩
theorem go_same {H : Hp} {D : Ends} {a u : TS} (h : GvA ta [d, d] σ H) (ho : okD d 7 = true) (k : ∀ H', Same H H' → u D σ H') : tSeq (tIfS (tNot (tB (tFn sp_same_L ta))) a tNext) u D σ H :=
  h.run H (Same.refl _) _ fun vs H1 g1 r1 => by
    obtain ⟨v, w, rfl, h1, h2⟩ := dr2 r1
    exact ⟨v, w, rfl, d, h1, h2, ho, fun H2 g2 => ⟨true, rfl, iteF (k H2 (g1.trans g2))⟩⟩
theorem go_of {H : Hp} {D : Ends} {u : TS} {v : V} {i j : Nat} (h1 : σ[i]? = some (some v)) (h : Gv te d σ H) (k : ∀ w H', Same H H' → Dr H' d w → sp_of_L [v, w] H' (fun y H2 => u D (σ.set j (some y)) H2) E0) :
    tSeq (tAsg (tFn sp_of_L (tCons (tVar i) (tCons te tNil))) (gName j)) u D σ H := ⟨v, h1, h.run H (Same.refl _) _ fun w H' g r => k w H' g r⟩
end
end Rw

namespace Rw
open PySem PySem.Spec PyProof.Rows L2 Mth

/-! ### the law -/
structure RowOk (n : Nat) (row : List Int) : Prop where
  word : isWordI row = true
  most : maxM row + 1 = (n : Int)
  led : okLed row n
  great : ∀ k, k < n → ∀ x : Int, -4 ≤ x → x ≤ 4 → GreatP (greatestM (spotsM row k) x row.length) (spotsM row k) x row.length
theorem rowOk_of {n : Nat} {row : List Int} (h : rowOk n row = true) : RowOk n row := by
  unfold rowOk at h
  simp only [Bool.and_eq_true, List.all_eq_true, decide_eq_true_eq, List.mem_range] at h
  obtain ⟨⟨⟨a, b⟩, c⟩, d⟩ := h
  refine ⟨a, b, okLed_of c, fun k hk x h1 h2 => ?_⟩
  have z := greatP_of (d k hk (x + 4).toNat (by omega))
  have e : (((x + 4).toNat : Nat) : Int) - 4 = x := by omega
  rw [e] at z
  exact z
structure NumOk (ns : List Int) : Prop where
  rows : okRows ns = true
  many : okMany ns = true
  count : okCount ns = true
  lrows : okLRows ns = true
  er : rowsM ns = lrowsM ns
  em : manyM ns = ((lrowsM ns).length : Nat)
  ec : countM ns = ((lrowsM ns).length : Nat)
  ne : lrowsM ns ≠ []
  len : ns.length < 10
  row : ∀ r ∈ lrowsM ns, RowOk ns.length (turn1 r)
theorem numOk_of {ns : List Int} (h : ns ∈ numsM) : NumOk ns := by
  have z := List.all_eq_true.mp nums_ok ns h
  unfold numOk at z
  simp only [Bool.and_eq_true, List.all_eq_true, decide_eq_true_eq] at z
  obtain ⟨⟨⟨⟨⟨⟨⟨⟨⟨a, b⟩, c⟩, d⟩, e⟩, f⟩, g⟩, i⟩, j⟩, k⟩ := z
  exact ⟨a, b, c, d, e.symm, f, g, i, j, fun r hr => rowOk_of (k r hr)⟩
theorem turn1_len (r : List Int) : (turn1 r).length = r.length := by
  unfold turn1
  rw [List.length_append, List.length_drop, List.length_take]
  omega
theorem minR_mem : ∀ (xs : List (List Int)) (x : List Int), minR x xs ∈ x :: xs
  | [], x => List.mem_cons_self
  | y :: ys, x => by
    have e : minR x (y :: ys) = minR (if HT.lexLt y x = true then y else x) ys := rfl
    rw [e]
    have ih := minR_mem ys (if HT.lexLt y x = true then y else x)
    rcases List.mem_cons.mp ih with h | h
    · rw [h]
      split
      · exact List.mem_cons_of_mem _ List.mem_cons_self
      · exact List.mem_cons_self
    · exact List.mem_cons_of_mem _ (List.mem_cons_of_mem _ h)
theorem least_len {ns : List Int} (h : ns ≠ []) : (leastM ns).length = ns.length := by
  have hp := pos_of_ne h
  have hall : ∀ r ∈ (List.range ns.length).map (fun (i : Nat) => turnedM ns (i : Int)), r.length = ns.length := fun r hr => by
    obtain ⟨i, _, e⟩ := List.mem_map.mp hr
    rw [← e]
    unfold turnedM
    rw [List.length_append, List.length_drop, List.length_take]
    omega
  unfold leastM
  generalize hL : (List.range ns.length).map (fun (i : Nat) => turnedM ns (i : Int)) = L at hall
  cases L with
  | nil =>
    have := congrArg List.length hL
    rw [List.length_map, List.length_range] at this
    have : ns.length = 0 := this
    omega
  | cons r rs => exact hall _ (minR_mem rs r)
def sp_law (K : PySem.W.Frag) : Sp := fun vs H Q _ => ∃ v1, vs = [v1] ∧ ∃ (a : Addr) (ns : List Int), v1 = .ref a ∧ SqL K H a (ns.map V.int) ∧ ns.length ≤ 63 ∧ ∀ H', Q (.bl true) H'
abbrev N_law : List Str := ["_law_script", "_law_tin", "_law_numbers_so", "_law_due", "_law_row_so", "_law_steps_so", "_law_told", "_law_k", "_law_own", "_law_spots_so", "_law_disks_here", "_law_z", "_law_its"]
abbrev s_law : Stmt := topS 63
theorem sc_law : FnScope N_law ["_law_script"] (defScope s_law) := ⟨rfl, rfl, rfl, by decide +kernel, rfl, by decide +kernel, by decide +kernel⟩
theorem ok_law {P : Program} {w : World} {K : PySem.W.Frag} {mg : Str → Option Value} {base : Heap} {e : Addr} {ed : FuncData} (F : Fun K "law" "law" s_law e ed) (Bt : Bi mg) (F_by_hand_right_L : Fd P w K mg base "_law_by_hand_right" 0 12 sp_by_hand_right_L) (F_box_L : Fd P w K mg base "_law_box" 2 1 sp_box_L) (F_cells_L : Fd P w K mg base "_law_cells" 2 1 (sp_cells_L K)) (F_of_L : Fd P w K mg base "_law_of" 2 2 sp_of_L) (F_rows_of_L : Fd P w K mg base "_law_rows_of" 1 1 sp_rows_of_L) (F_same_L : Fd P w K mg base "_law_same" 2 8 sp_same_L) (F_rows : Fd P w K mg base "rows" 1 10 sp_rows) (F_many_rows : Fd P w K mg base "many_rows" 1 10 sp_many_rows) (F_count_L : Fd P w K mg base "_law_count" 1 2 sp_count_L) (F_take_L : Fd P w K mg base "_law_take" 2 1 sp_take_L) (F_led_train : Fd P w K mg base "led_train" 2 11 sp_led_train) (F_led_disks_L : Fd P w K mg base "_law_led_disks" 2 3 sp_led_disks_L) (F_is_greatest_L : Fd P w K mg base "_law_is_greatest" 4 2 sp_is_greatest_L) (F_disks_L : Fd P w K mg base "_law_disks" 3 3 sp_disks_L) (F_row_by_own_L : Fd P w K mg base "_law_row_by_own" 1 4 sp_row_by_own_L) (F_row_of : Fd P w K mg base "row_of" 1 10 sp_row_of) (F_lists_L : Fd P w K mg base "_law_lists" 1 8 sp_lists_L) :
    FnOk P w K mg base CX0 13 e ed ["_law_script"] (sp_law K) := by
  refine F.ok sc_law (fun vs H Q E h => ?_) (fun cdv A outer s H vs Q E hr h => ?_)
  · obtain ⟨_, rfl, _⟩ := h
    rfl
  obtain ⟨_, rfl, a, ss, rfl, hS, h63, q⟩ := h
  refine ⟨_, pss_cons (ps_if (pt_not (pt_val (pe_fn0 F_by_hand_right_L hr (by decide) rfl))) (pss_one (ps_ret (pe_bl))) (pss_nil))
    (pss_cons (ps_set (i := 1) sc_law.nd rfl (Or.inr rfl) (pe_fn F_box_L hr (by decide) rfl (pa_cons (pe_fn F_cells_L hr (by decide) rfl (pa_cons (pv 0) (pa_cons (pe_int) (pa_nil)))) (pa_cons (pe_int) (pa_nil)))))
    (pss_cons (ps_set (i := 2) sc_law.nd rfl (Or.inl rfl) (pe_fn F_of_L hr (by decide) rfl (pa_cons (pv 1) (pa_cons (pe_lst (pa_cons (pe_tup (pa_cons (pe_int) (pa_cons (pe_int) (pa_nil)))) (pa_cons (pe_tup (pa_cons (pe_int) (pa_cons (pe_int) (pa_nil)))) (pa_cons (pe_tup (pa_cons (pe_int) (pa_cons (pe_int) (pa_nil)))) (pa_cons (pe_tup (pa_cons (pe_int) (pa_cons (pe_int) (pa_nil)))) (pa_cons (pe_tup (pa_cons (pe_int) (pa_cons (pe_int) (pa_nil)))) (pa_cons (pe_tup (pa_cons (pe_int) (pa_cons (pe_int) (pa_nil)))) (pa_cons (pe_tup (pa_cons (pe_int) (pa_cons (pe_int) (pa_cons (pe_int) (pa_nil))))) (pa_cons (pe_tup (pa_cons (pe_int) (pa_cons (pe_int) (pa_cons (pe_int) (pa_nil))))) (pa_cons (pe_tup (pa_cons (pe_int) (pa_cons (pe_int) (pa_cons (pe_int) (pa_cons (pe_int) (pa_nil)))))) (pa_cons (pe_tup (pa_cons (pe_int) (pa_cons (pe_int) (pa_cons (pe_int) (pa_cons (pe_int) (pa_nil)))))) (pa_cons (pe_tup (pa_cons (pe_int) (pa_nil))) (pa_cons (pe_tup (pa_cons (pe_int) (pa_cons (pe_int) (pa_nil)))) (pa_nil)))))))))))))) (pa_nil)))))
    (pss_cons (ps_set (i := 3) sc_law.nd rfl (Or.inl rfl) (pe_fn F_rows_of_L hr (by decide) rfl (pa_cons (pv 2) (pa_nil))))
    (pss_cons (ps_if (pt_not (pt_val (pe_fn F_same_L hr (by decide) rfl (pa_cons (pe_lst (pa_cons (pe_fn F_rows hr (by decide) rfl (pa_cons (pv 2) (pa_nil))) (pa_cons (pe_fn F_many_rows hr (by decide) rfl (pa_cons (e_list K Bt (pv 2)) (pa_nil))) (pa_cons (pe_fn F_count_L hr (by decide) rfl (pa_cons (pv 2) (pa_nil))) (pa_nil))))) (pa_cons (pe_lst (pa_cons (pv 3) (pa_cons (e_len K Bt (pv 3)) (pa_cons (e_len K Bt (pv 3)) (pa_nil))))) (pa_nil)))))) (pss_one (ps_ret (pe_bl))) (pss_nil))
    (pss_cons (ps_set (i := 4) sc_law.nd rfl (Or.inl rfl) (pe_fn F_of_L hr (by decide) rfl (pa_cons (pv 1) (pa_cons (pv 3) (pa_nil)))))
    (pss_cons (ps_set (i := 4) sc_law.nd rfl (Or.inl rfl) (pe_op (k_catT K) (pe_slice (k_slT K) (pv 4) (po_some (pe_int)) (po_none)) (pe_slice (k_slT K) (pv 4) (po_none) (po_some (pe_int)))))
    (pss_cons (ps_set (i := 5) sc_law.nd rfl (Or.inl rfl) (e_tuple K Bt (pe_lcV (own := [("_law_own", 8)]) rfl sc_law.nd (k_tup K (pv 2)) (blkOk_by (N := N_law) (sc := defScope s_law) (by decide +kernel)) (fun _ _ _ _ _ => pg_name (i := 8) sc_law.nd rfl (Or.inl rfl)) (fun _ _ _ _ _ => pts_nil) (fun _ _ _ _ _ => pe_op op_sub (pe_fn F_take_L hr (by decide) rfl (pa_cons (pv 1) (pa_cons (pe_int) (pa_nil)))) (pe_int)))))
    (pss_cons (ps_set (i := 6) sc_law.nd rfl (Or.inl rfl) (pe_fn F_led_train hr (by decide) rfl (pa_cons (pv 4) (pa_cons (e_list K Bt (pv 5)) (pa_nil)))))
    (pss_cons (ps_if (pt_not (pt_val (pe_fn F_same_L hr (by decide) rfl (pa_cons (pv 6) (pa_cons (pe_fn F_led_disks_L hr (by decide) rfl (pa_cons (pv 4) (pa_cons (pv 5) (pa_nil)))) (pa_nil)))))) (pss_one (ps_ret (pe_bl))) (pss_nil))
    (pss_cons (ps_forS PassesOwn.never rfl (k_enum K Bt (pv 6)) (k_tg K 2 rfl (pgs_cons (pg_name (i := 7) sc_law.nd rfl (Or.inr rfl)) (pgs_cons (pg_name (i := 8) sc_law.nd rfl (Or.inl rfl)) (pgs_nil)))) (pss_cons (ps_set (i := 9) sc_law.nd rfl (Or.inl rfl) (e_tuple K Bt (pe_lcS (own := [("_law_z", 11), ("_law_its", 12)]) rfl sc_law.nd (k_enum K Bt (pv 4)) (blkOk_by (N := N_law) (sc := defScope s_law) (by decide +kernel)) (fun _ _ _ _ _ => k_tg K 2 rfl (pgs_cons (pg_name (i := 11) sc_law.nd rfl (Or.inl rfl)) (pgs_cons (pg_name (i := 12) sc_law.nd rfl (Or.inl rfl)) (pgs_nil)))) (fun _ _ _ _ _ => pts_one (pt_cmpR op_eq (pv 12) (pv 7) (nomark _))) (fun _ _ _ _ _ => pv 11))))
    (pss_one (ps_if (pt_not (pt_val (pe_fn F_is_greatest_L hr (by decide) rfl (pa_cons (pv 8) (pa_cons (pv 9) (pa_cons (pe_ix (k_ixT K) (pv 5) (pv 7) (fun _ _ => rfl)) (pa_cons (e_len K Bt (pv 4)) (pa_nil)))))))) (pss_one (ps_ret (pe_bl))) (pss_nil)))))
    (pss_cons (ps_set (i := 10) sc_law.nd rfl (Or.inl rfl) (pe_fn F_disks_L hr (by decide) rfl (pa_cons (pv 1) (pa_cons (pe_op op_add (pe_int) (pe_fn F_take_L hr (by decide) rfl (pa_cons (pv 1) (pa_cons (pe_int) (pa_nil))))) (pa_cons (pe_op op_add (pe_int) (pe_fn F_take_L hr (by decide) rfl (pa_cons (pv 1) (pa_cons (pe_int) (pa_nil))))) (pa_nil))))))
    (pss_one (ps_ret (pe_fn F_same_L hr (by decide) rfl (pa_cons (pe_fn F_row_of hr (by decide) rfl (pa_cons (pe_fn F_lists_L hr (by decide) rfl (pa_cons (pv 10) (pa_nil))) (pa_nil))) (pa_cons (pe_fn F_row_by_own_L hr (by decide) rfl (pa_cons (pv 10) (pa_nil))) (pa_nil))))))))))))))))), ?_⟩
  refine ⟨rfl, fun H1 g1 => ⟨true, rfl, iteF ?_⟩⟩
  -- the box
  refine ⟨_, rfl, _, _, rfl, a, ss, rfl, rfl, g1.seq hS, h63, fun vc H2 x g2 hc => ⟨_, _, rfl, x, hc, rfl, fun p H3 g3 t3 hp2 => ?_⟩⟩
  -- the numbers
  refine go_of rfl (gv_lst (gvA_cons (gv_tup (gvA_cons gv_int (gvA_cons gv_int gvA_nil))) (gvA_cons (gv_tup (gvA_cons gv_int (gvA_cons gv_int gvA_nil))) (gvA_cons (gv_tup (gvA_cons gv_int (gvA_cons gv_int gvA_nil))) (gvA_cons (gv_tup (gvA_cons gv_int (gvA_cons gv_int gvA_nil)))
    (gvA_cons (gv_tup (gvA_cons gv_int (gvA_cons gv_int gvA_nil))) (gvA_cons (gv_tup (gvA_cons gv_int (gvA_cons gv_int gvA_nil))) (gvA_cons (gv_tup (gvA_cons gv_int (gvA_cons gv_int (gvA_cons gv_int gvA_nil)))) (gvA_cons (gv_tup (gvA_cons gv_int (gvA_cons gv_int (gvA_cons gv_int gvA_nil))))
    (gvA_cons (gv_tup (gvA_cons gv_int (gvA_cons gv_int (gvA_cons gv_int (gvA_cons gv_int gvA_nil))))) (gvA_cons (gv_tup (gvA_cons gv_int (gvA_cons gv_int (gvA_cons gv_int (gvA_cons gv_int gvA_nil))))) (gvA_cons (gv_tup (gvA_cons gv_int gvA_nil)) (gvA_cons (gv_tup (gvA_cons gv_int (gvA_cons gv_int gvA_nil))) gvA_nil))))))))))))) fun vl H4 g4 r4 => ?_
  have t4 := t3.sm g4
  refine ⟨_, _, rfl, p, 0, numsM, rfl, dr_LT.mp (Dr.to r4 rfl), t4, by decide, by decide, by decide, fun vN H5 ns hns s5 t5 tN5 => ?_⟩
  have M := numOk_of hns
  have L := okLRows_of M.lrows
  have nl := M.len
  -- what is due
  refine ⟨_, rfl, _, rfl, ns, tN5, M.lrows, fun vD H6 g6 lD6 => ?_⟩
  have tN6 := tN5.sm g6
  have t6 := t5.sm g6
  have few := L.few
  have rl : ∀ r ∈ lrowsM ns, r.length < 1000 := fun r hr => by
    have := lrows_len hr
    have := L.s1
    omega
  refine go_same (d := .list [lR (lrowsM ns), .int ((lrowsM ns).length : Nat), .int ((lrowsM ns).length : Nat)])
    (gvA_cons (gv_lst (gvA_cons (gv_rows _ (gvA_cons (gv_var rfl (dr_TI.mpr tN6)) gvA_nil) (okD_tI (by omega)) (tupled_tI ns) M.rows M.er)
      (gvA_cons (gv_many _ (gvA_cons (gv_list (gv_var rfl (dr_TI.mpr tN6))) gvA_nil) (okD_lI (by omega)) (tupled_lI ns) M.many M.em)
      (gvA_cons (gv_count _ (gvA_cons (gv_var rfl (dr_TI.mpr tN6)) gvA_nil) M.count M.ec) gvA_nil))) (by show 3 ≤ 1000; decide))
    (gvA_cons (gv_lst (gvA_cons (gv_var rfl (dr_LT.mpr lD6)) (gvA_cons (gv_len (gv_var rfl (dr_LT.mpr lD6)) (List.length_map _)) (gvA_cons (gv_len (gv_var rfl (dr_LT.mpr lD6)) (List.length_map _)) gvA_nil))) (by show 3 ≤ 1000; decide)) gvA_nil)) ?_ fun H7 g7 => ?_
  · show (true && (okD (lR (lrowsM ns)) 6 && true)) = true
    rw [okD_lR (by omega) rl]
    rfl
  have tN7 := tN6.sm g7
  have t7 := t6.sm g7
  have lD7 : LL TI H7 vD (lrowsM ns) := sm_LL km_TI.sm _ _ _ _ g7 lD6
  -- a row, turned by one
  refine ⟨_, rfl, _, rfl, _, _, rfl, p, 1, lrowsM ns, rfl, lD7, t7, by decide, M.ne, by omega, fun vr H8 r hr s8 t8 tr8 => ?_⟩
  have R := M.row r hr
  have rlen := lrows_len hr
  have s0 := L.s0
  have s1 := L.s1
  have tN8 := tN7.kp (t7.kp s8)
  refine ⟨_, rfl, _, rfl, ?_⟩
  refine sl_from (k := 1) tr8.tv rfl (by rw [List.length_map]; omega) fun va H9 g9 ta9 => ?_
  refine ⟨_, rfl, _, rfl, ?_⟩
  refine sl_upto (k := 1) (tr8.sm g9).tv rfl (by rw [List.length_map]; omega) fun vb H10 g10 tb10 => ?_
  refine cat_tv (ta9.sm g10) tb10 (by rw [List.length_drop, List.length_take, List.length_map]; omega) fun vR H11 g11 tR11 => ?_
  have g811 := g9.trans (g10.trans g11)
  replace tR11 : TI H11 vR (turn1 r) := by
    rw [← List.map_drop, ← List.map_take, ← List.map_append] at tR11
    exact tR11
  generalize hrow : turn1 r = row at R tR11
  have rowl : row.length = ns.sum.toNat := by rw [← hrow, turn1_len, rlen]
  have tN11 := tN8.sm g811
  have t11 := t8.sm g811
  -- the steps
  obtain ⟨aN, rfl, haN⟩ := id tN11
  refine ⟨_, rfl, aN, rfl, ⟨_, SqT.of haN⟩, fun D hD => ?_⟩
  have hpD := t11.ne hD
  refine ⟨fun Hc => SqT K Hc aN (ns.map V.int), ns.length, _, fun i Hc => ∃ ms : List Int, Hc D = some (.lst (ms.map V.int)) ∧ ms.length = i ∧ (∀ x ∈ ms, -4 ≤ x ∧ x ≤ 4) ∧ Sm p H11 Hc ∧ Tin (2 + i) Hc p, src_tupI, ?_, ?_, fun i hi => ?_, ?_, ?_⟩
  · exact ⟨[], upd_same, rfl, fun x hx => (by cases hx), Sm.of (same_new hD _), t11.sm (same_new hD _)⟩
  · rintro i Hc ⟨ms, _, _, _, sc, _⟩
    exact SqT.of (t11.kp sc _ _ haN)
  · rfl
  · rintro i Hc H13 hi ⟨ms, hDc, hl, hb, sc, tc⟩ e
    unfold tYes
    dsimp only
    rw [if_pos rfl]
    refine ⟨_, rfl, _, _, rfl, p, 2 + i, 9, rfl, rfl, tc.sm e, by omega, by decide, by decide, fun y H14 ya yb s14 t14 => ?_⟩
    have hD14 := s14 _ _ (Ne.symm hpD) (e _ _ hDc)
    refine ⟨_, _, rfl, rfl, _, hD14, ?_, ms ++ [y - 4], ?_, ?_, fun x hx => ?_, ((sc.trans (Sm.of e)).trans s14).mut hD, ?_⟩
    · rw [List.length_map, sizeLine_eq]
      omega
    · rw [upd_same, List.map_append]
      rfl
    · rw [List.length_append, hl]
      rfl
    · rcases List.mem_append.mp hx with hx | hx
      · exact hb x hx
      · rw [List.mem_singleton.mp hx]
        omega
    · obtain ⟨b0, b1, b2, x1, x2⟩ := t14
      exact ⟨b0, b1, b2, by rw [upd_ne hpD]; exact x1, x2⟩
  rintro H12 ⟨ms, hD12, ml, mb, s12, t12⟩
  refine ⟨D, _, rfl, .inl ⟨SqL.of hD12, fun aS haS => ?_⟩⟩
  have e13 := same_new haS (.tup (ms.map V.int))
  have tS13 : TI (upd H12 aS (.tup (ms.map V.int))) (.ref aS) ms := ⟨aS, rfl, upd_same⟩
  have t13 := t12.sm e13
  have tR13 := (tR11.kp (t11.kp s12)).sm e13
  generalize hH13 : upd H12 aS (.tup (ms.map V.int)) = H13 at e13 tS13 t13 tR13 ⊢
  -- led, twice
  have okl : okLed row ms.length := by rw [ml]; exact R.led
  have hmne : ms ≠ [] := fun e => by
    have := okLRows_of M.lrows
    have := pos_of_ne this.ne
    rw [e] at ml
    have : 0 = ns.length := ml
    omega
  refine ⟨_, rfl, _, rfl, aS, _, rfl, .inr (SqT.of (show H13 aS = some (.tup (ms.map V.int)) from by rw [← hH13]; exact upd_same)), fun l hl => ?_⟩
  have e14 := same_new hl (.lst (ms.map V.int))
  refine ⟨_, _, rfl, tI row, lI ms, row, ms, dr_TI.mpr (tR13.sm e14), okD_tI (by omega), tupled_tI row, R.word, ⟨l, _, rfl, upd_same, (drAll_ints ms _).mpr rfl⟩, okD_lI (by omega), tupled_lI ms, hmne, by rw [ml]; exact R.most, okl, fun vT H15 g15 tT15 => ?_⟩
  have e15 := e14.trans g15
  have tR15 := tR13.sm e15
  have tS15 := tS13.sm e15
  have t15 := t13.sm e15
  have lrl : (ledRowM row ms).length < 1000 := by
    unfold ledRowM
    rw [List.length_map, List.length_range]
    omega
  have lrr : ∀ r ∈ ledRowM row ms, r.length < 1000 := fun r hr => by
    unfold ledRowM at hr
    obtain ⟨k, _, e⟩ := List.mem_map.mp hr
    rw [← e]
    unfold greatestM
    rw [List.length_map, List.length_range]
    omega
  refine go_same (gvA_cons (gv_var rfl (dr_TT.mpr tT15)) (gvA_cons (gv_disks (gvA_cons (gv_var rfl (dr_TI.mpr tR15)) (gvA_cons (gv_var rfl (dr_TI.mpr tS15)) gvA_nil)) okl) gvA_nil)) (okD_tR lrl lrr) fun H16 g16 => ?_
  have tR16 := tR15.sm g16
  have tS16 := tS15.sm g16
  have t16 := t15.sm g16
  have tT16 : TL TI H16 vT (ledRowM row ms) := km_TL km_TI _ _ _ _ (Kp.of g16) tT15
  obtain ⟨aT, ts, rfl, haT, hts⟩ := id tT16
  obtain ⟨aR, rfl, haR⟩ := id tR16
  have htl := paired_len hts
  have ledl : (ledRowM row ms).length = ms.length := by
    unfold ledRowM
    rw [List.length_map, List.length_range]
  have hS16 : H16 aS = some (.tup (ms.map V.int)) := by
    obtain ⟨a', e', h'⟩ := tS16
    cases e'
    exact h'
  -- each is the greatest
  refine ⟨_, rfl, aT, _, rfl, .inr ⟨SqT.of haT, _, _, _, fun i σ Hc => ∃ x y z, σ = [some (.ref a), some (.ref p), some (.ref aN), some vD, some (.ref aR), some (.ref aS), some (.ref aT), x, y, z, none, none, none] ∧ Same H16 Hc,
    src_enumT (xs := ts), ⟨none, none, none, rfl, Same.refl _⟩, fun i σ Hc ⟨_, _, _, _, g⟩ => SqT.of (g _ _ haT), ?_, ?_⟩⟩
  · rintro i _ H17 H18 hi ⟨x, y, z, rfl, g17⟩ e
    have g18 := g17.trans e
    have haR18 := g18 _ _ haR
    refine ⟨_, rfl, aR, _, rfl, .inr ⟨SqT.of haR18, Int, rI, _, _, _, fun z => if decide (V.int (row.getD z 0) = V.int ((i : Nat) : Int)) = true then some ((z : Nat) : Int) else none, src_enumTI, by omega, fun H' g => SqT.of (g _ _ haR18), fun j hj => rfl,
      fun j hj H' g Q' q' => ⟨_, rfl, _, rfl, rfl, _, rfl, ifs_some.mp (q' H' (Same.refl _))⟩, .inr ⟨km_I, fun j b hj hb H' g Q' q' => ⟨_, rfl, q' _ _ (Same.refl _) (congrArg V.int (if_some hb).symm)⟩⟩, fun E zs H19 hE g19 hZ _ hp19 => ?_⟩⟩
    rw [spots_fm] at hp19
    refine ⟨E, zs, rfl, .inl ⟨SqL.of hZ, fun l hl0 => ?_⟩⟩
    have g20 : Same H18 (upd H19 l (.tup zs)) := g19.trans (same_new hl0 _)
    have tP : TI (upd H19 l (.tup zs)) (.ref l) (spotsM row i) := ⟨l, rfl, by rw [upd_same, paired_I hp19]⟩
    have hi2 : i < ms.length := by omega
    obtain ⟨tO, mO⟩ := pairedG (d := []) hts (i := i) (by omega)
    have eO : (ledRowM row ms).getD i [] = greatestM (spotsM row i) (ms.getD i 0) row.length := by
      unfold ledRowM
      rw [List.getD_eq_getElem?_getD, List.getElem?_map, List.getElem?_range hi2]
      rfl
    rw [eO] at tO
    have g21 := g18.trans g20
    obtain ⟨b0, b1⟩ := mb _ (getD_mem hi2)
    have G := R.great i (by omega) (ms.getD i 0) b0 b1
    refine ⟨_, rfl, _, rfl, _, rfl, _, rfl, aS, _, _, _, rfl, rfl, SqT.of (g21 _ _ hS16), atI_int (i := ((i : Nat) : Int)) (by omega) (by omega), _, rfl, aR, _, _, rfl, .inr (SqT.of (g21 _ _ haR)), len_int, _, _, _, _, rfl, _, _, ms.getD i 0, (row.length : Int), tO.sm g21, tP, rfl, rfl, G, fun H22 g22 => ?_⟩
    exact ⟨true, rfl, iteF ⟨_, _, _, rfl, g21.trans g22⟩⟩
  -- the disks
  rintro _ H17 ⟨x, y, z, rfl, g17⟩
  have t17 := t16.sm g17
  refine ⟨_, rfl, _, rfl, _, _, rfl, p, _, 9, rfl, rfl, t17, by omega, by decide, by decide, fun r1 H18 r1a r1b s18 t18 => ⟨_, _, rfl, rfl, ?_⟩⟩
  refine ⟨_, rfl, _, _, rfl, p, _, 4, rfl, rfl, t18, by omega, by decide, by decide, fun r2 H19 r2a r2b s19 t19 => ⟨_, _, rfl, rfl, ?_⟩⟩
  refine ⟨_, _, _, rfl, p, _, (1 + r1).toNat, (1 + r2).toNat, rfl, congrArg V.int (by omega), congrArg V.int (by omega), t19, by omega, by omega, by omega, by omega, by omega, fun vK H20 rs s20 tK hrl hrw => ?_⟩
  have hne : rs ≠ [] := fun e => by
    rw [e] at hrl
    have : 0 = (1 + r2).toNat := hrl
    omega
  have hpos := pos_of_ne hne
  have m0 : rs.getD 0 [] ∈ rs := by
    rw [getD_of (List.getElem?_eq_getElem hpos)]
    exact List.getElem_mem hpos
  have ht : trainP rs := ⟨hne, by omega, fun r hr => ⟨(hrw r hr).1, by have := (hrw r hr).2; omega⟩, fun r hr => by rw [(hrw r hr).2, (hrw _ m0).2]⟩
  have hz : (rs.getD 0 []).length * rs.length < 1000 := by
    rw [(hrw _ m0).2, hrl]
    have : (1 + r1).toNat * (1 + r2).toNat ≤ 9 * 4 := Nat.mul_le_mul (by omega) (by omega)
    omega
  have rln : rs.length < 1000 := by omega
  have rrn : ∀ r ∈ rs, r.length < 1000 := fun r hr => by have := (hrw r hr).2; omega
  refine go_ret (gvA_cons (gv_rowT (gvA_cons (gv_lists (gvA_cons (gv_var rfl (dr_TT.mpr tK)) gvA_nil) (okD_tR rln rrn)) gvA_nil) (by rw [lists_tR]; exact okD_lL rln rrn) (by rw [lists_tR]; exact tupled_lL rs) ht hz)
    (gvA_cons (gv_own (gvA_cons (gv_var rfl (dr_TT.mpr tK)) gvA_nil) ht (fun r hr => by have := (hrw r hr).2; omega) hz) gvA_nil)) fun vs H21 g21 r21 => ?_
  obtain ⟨v, u, rfl, h1, h2⟩ := dr2 r21
  refine ⟨v, u, rfl, _, h1, h2, okD_tI ?_, fun H22 g22 => q _⟩
  have h3 : (rowRawM rs).length < 1000 := Nat.lt_of_le_of_lt (flatR_len (letters_len rs) (rs.getD 0 []).length) hz
  unfold rowOfM
  rw [least_len (raw_ne ht)]
  exact h3
end Rw

namespace Rw
open PySem PySem.Spec PyProof.Rows L2 Mth

/-! ### the text's top: the defs stand there as the text says -/
theorem tx_led_in {K : PySem.W.Frag} {h : Heap} {mg : Str → Option Value} {f : Addr} {oc kV dc pm cd ct : Value} {od an : Option Addr} {osl : Array (Option Value)} (KX : K.In h) (G : h.Ns mainGlobals mg)
    (a : PySem.W.nsIn K mainGlobals "led_in" = some (some (.ref f))) (l : K.lookup f = some ⟨oc, od, .func (PySem.W.fnOf "led_in" "led_in" (defArgs s_led_in) (defBody s_led_in) (defScope s_led_in) .none kV dc pm an cd ct), osl⟩) (c : PySem.W.codeIn K cd "led_in" = true) (k : PySem.W.keepIn K (.ref f) = true) :
    Tx K mg "led_in" s_led_in ["wheel", "number"] :=
  ⟨f, _, fun_mk (st := s_led_in) l c k, PySem.W.mg_of KX G a, (fun_mk (st := s_led_in) l c k).binds (ps := ["wheel", "number"]) (fun _ _ _ _ _ _ us hl => match us, hl with | [_, _], _ => rfl), fun s ws hl => match ws, hl with | [_, _], _ => .of_eq rfl⟩
theorem tx_name_in {K : PySem.W.Frag} {h : Heap} {mg : Str → Option Value} {f : Addr} {oc kV dc pm cd ct : Value} {od an : Option Addr} {osl : Array (Option Value)} (KX : K.In h) (G : h.Ns mainGlobals mg)
    (a : PySem.W.nsIn K mainGlobals "name_in" = some (some (.ref f))) (l : K.lookup f = some ⟨oc, od, .func (PySem.W.fnOf "name_in" "name_in" (defArgs s_name_in) (defBody s_name_in) (defScope s_name_in) .none kV dc pm an cd ct), osl⟩) (c : PySem.W.codeIn K cd "name_in" = true) (k : PySem.W.keepIn K (.ref f) = true) :
    Tx K mg "name_in" s_name_in ["places", "ring", "number"] :=
  ⟨f, _, fun_mk (st := s_name_in) l c k, PySem.W.mg_of KX G a, (fun_mk (st := s_name_in) l c k).binds (ps := ["places", "ring", "number"]) (fun _ _ _ _ _ _ us hl => match us, hl with | [_, _, _], _ => rfl), fun s ws hl => match ws, hl with | [_, _, _], _ => .of_eq rfl⟩
theorem tx_behind_in {K : PySem.W.Frag} {h : Heap} {mg : Str → Option Value} {f : Addr} {oc kV dc pm cd ct : Value} {od an : Option Addr} {osl : Array (Option Value)} (KX : K.In h) (G : h.Ns mainGlobals mg)
    (a : PySem.W.nsIn K mainGlobals "behind_in" = some (some (.ref f))) (l : K.lookup f = some ⟨oc, od, .func (PySem.W.fnOf "behind_in" "behind_in" (defArgs s_behind_in) (defBody s_behind_in) (defScope s_behind_in) .none kV dc pm an cd ct), osl⟩) (c : PySem.W.codeIn K cd "behind_in" = true) (k : PySem.W.keepIn K (.ref f) = true) :
    Tx K mg "behind_in" s_behind_in ["places", "ring", "number"] :=
  ⟨f, _, fun_mk (st := s_behind_in) l c k, PySem.W.mg_of KX G a, (fun_mk (st := s_behind_in) l c k).binds (ps := ["places", "ring", "number"]) (fun _ _ _ _ _ _ us hl => match us, hl with | [_, _, _], _ => rfl), fun s ws hl => match ws, hl with | [_, _, _], _ => .of_eq rfl⟩
theorem tx_greatest_in {K : PySem.W.Frag} {h : Heap} {mg : Str → Option Value} {f : Addr} {oc kV dc pm cd ct : Value} {od an : Option Addr} {osl : Array (Option Value)} (KX : K.In h) (G : h.Ns mainGlobals mg)
    (a : PySem.W.nsIn K mainGlobals "greatest_in" = some (some (.ref f))) (l : K.lookup f = some ⟨oc, od, .func (PySem.W.fnOf "greatest_in" "greatest_in" (defArgs s_greatest_in) (defBody s_greatest_in) (defScope s_greatest_in) .none kV dc pm an cd ct), osl⟩) (c : PySem.W.codeIn K cd "greatest_in" = true) (k : PySem.W.keepIn K (.ref f) = true) :
    Tx K mg "greatest_in" s_greatest_in ["places", "number", "ring"] :=
  ⟨f, _, fun_mk (st := s_greatest_in) l c k, PySem.W.mg_of KX G a, (fun_mk (st := s_greatest_in) l c k).binds (ps := ["places", "number", "ring"]) (fun _ _ _ _ _ _ us hl => match us, hl with | [_, _, _], _ => rfl), fun s ws hl => match ws, hl with | [_, _, _], _ => .of_eq rfl⟩
theorem tx_turned_in {K : PySem.W.Frag} {h : Heap} {mg : Str → Option Value} {f : Addr} {oc kV dc pm cd ct : Value} {od an : Option Addr} {osl : Array (Option Value)} (KX : K.In h) (G : h.Ns mainGlobals mg)
    (a : PySem.W.nsIn K mainGlobals "turned_in" = some (some (.ref f))) (l : K.lookup f = some ⟨oc, od, .func (PySem.W.fnOf "turned_in" "turned_in" (defArgs s_turned_in) (defBody s_turned_in) (defScope s_turned_in) .none kV dc pm an cd ct), osl⟩) (c : PySem.W.codeIn K cd "turned_in" = true) (k : PySem.W.keepIn K (.ref f) = true) :
    Tx K mg "turned_in" s_turned_in ["word", "number"] :=
  ⟨f, _, fun_mk (st := s_turned_in) l c k, PySem.W.mg_of KX G a, (fun_mk (st := s_turned_in) l c k).binds (ps := ["word", "number"]) (fun _ _ _ _ _ _ us hl => match us, hl with | [_, _], _ => rfl), fun s ws hl => match ws, hl with | [_, _], _ => .of_eq rfl⟩
theorem tx_least_in_turn {K : PySem.W.Frag} {h : Heap} {mg : Str → Option Value} {f : Addr} {oc kV dc pm cd ct : Value} {od an : Option Addr} {osl : Array (Option Value)} (KX : K.In h) (G : h.Ns mainGlobals mg)
    (a : PySem.W.nsIn K mainGlobals "least_in_turn" = some (some (.ref f))) (l : K.lookup f = some ⟨oc, od, .func (PySem.W.fnOf "least_in_turn" "least_in_turn" (defArgs s_least_in_turn) (defBody s_least_in_turn) (defScope s_least_in_turn) .none kV dc pm an cd ct), osl⟩) (c : PySem.W.codeIn K cd "least_in_turn" = true) (k : PySem.W.keepIn K (.ref f) = true) :
    Tx K mg "least_in_turn" s_least_in_turn ["word"] :=
  ⟨f, _, fun_mk (st := s_least_in_turn) l c k, PySem.W.mg_of KX G a, (fun_mk (st := s_least_in_turn) l c k).binds (ps := ["word"]) (fun _ _ _ _ _ _ us hl => match us, hl with | [_], _ => rfl), fun s ws hl => match ws, hl with | [_], _ => .of_eq rfl⟩
theorem tx_led_L {K : PySem.W.Frag} {h : Heap} {mg : Str → Option Value} {f : Addr} {oc kV dc pm cd ct : Value} {od an : Option Addr} {osl : Array (Option Value)} (KX : K.In h) (G : h.Ns mainGlobals mg)
    (a : PySem.W.nsIn K mainGlobals "_law_led" = some (some (.ref f))) (l : K.lookup f = some ⟨oc, od, .func (PySem.W.fnOf "_law_led" "_law_led" (defArgs s_led_L) (defBody s_led_L) (defScope s_led_L) .none kV dc pm an cd ct), osl⟩) (c : PySem.W.codeIn K cd "_law_led" = true) (k : PySem.W.keepIn K (.ref f) = true) :
    Tx K mg "_law_led" s_led_L ["_law_disk_here", "_law_z"] :=
  ⟨f, _, fun_mk (st := s_led_L) l c k, PySem.W.mg_of KX G a, (fun_mk (st := s_led_L) l c k).binds (ps := ["_law_disk_here", "_law_z"]) (fun _ _ _ _ _ _ us hl => match us, hl with | [_, _], _ => rfl), fun s ws hl => match ws, hl with | [_, _], _ => .of_eq rfl⟩
theorem tx_told_on_L {K : PySem.W.Frag} {h : Heap} {mg : Str → Option Value} {f : Addr} {oc kV dc pm cd ct : Value} {od an : Option Addr} {osl : Array (Option Value)} (KX : K.In h) (G : h.Ns mainGlobals mg)
    (a : PySem.W.nsIn K mainGlobals "_law_told_on" = some (some (.ref f))) (l : K.lookup f = some ⟨oc, od, .func (PySem.W.fnOf "_law_told_on" "_law_told_on" (defArgs s_told_on_L) (defBody s_told_on_L) (defScope s_told_on_L) .none kV dc pm an cd ct), osl⟩) (c : PySem.W.codeIn K cd "_law_told_on" = true) (k : PySem.W.keepIn K (.ref f) = true) :
    Tx K mg "_law_told_on" s_told_on_L ["_law_spots_so", "_law_ring_so", "_law_i"] :=
  ⟨f, _, fun_mk (st := s_told_on_L) l c k, PySem.W.mg_of KX G a, (fun_mk (st := s_told_on_L) l c k).binds (ps := ["_law_spots_so", "_law_ring_so", "_law_i"]) (fun _ _ _ _ _ _ us hl => match us, hl with | [_, _, _], _ => rfl), fun s ws hl => match ws, hl with | [_, _, _], _ => .of_eq rfl⟩
theorem tx_name_ahead_L {K : PySem.W.Frag} {h : Heap} {mg : Str → Option Value} {f : Addr} {oc kV dc pm cd ct : Value} {od an : Option Addr} {osl : Array (Option Value)} (KX : K.In h) (G : h.Ns mainGlobals mg)
    (a : PySem.W.nsIn K mainGlobals "_law_name_ahead" = some (some (.ref f))) (l : K.lookup f = some ⟨oc, od, .func (PySem.W.fnOf "_law_name_ahead" "_law_name_ahead" (defArgs s_name_ahead_L) (defBody s_name_ahead_L) (defScope s_name_ahead_L) .none kV dc pm an cd ct), osl⟩) (c : PySem.W.codeIn K cd "_law_name_ahead" = true) (k : PySem.W.keepIn K (.ref f) = true) :
    Tx K mg "_law_name_ahead" s_name_ahead_L ["_law_spots_so", "_law_ring_so", "_law_z", "_law_strict_so"] :=
  ⟨f, _, fun_mk (st := s_name_ahead_L) l c k, PySem.W.mg_of KX G a, (fun_mk (st := s_name_ahead_L) l c k).binds (ps := ["_law_spots_so", "_law_ring_so", "_law_z", "_law_strict_so"]) (fun _ _ _ _ _ _ us hl => match us, hl with | [_, _, _, _], _ => rfl), fun s ws hl => match ws, hl with | [_, _, _, _], _ => .of_eq rfl⟩
theorem tx_shift_L {K : PySem.W.Frag} {h : Heap} {mg : Str → Option Value} {f : Addr} {oc kV dc pm cd ct : Value} {od an : Option Addr} {osl : Array (Option Value)} (KX : K.In h) (G : h.Ns mainGlobals mg)
    (a : PySem.W.nsIn K mainGlobals "_law_shift" = some (some (.ref f))) (l : K.lookup f = some ⟨oc, od, .func (PySem.W.fnOf "_law_shift" "_law_shift" (defArgs s_shift_L) (defBody s_shift_L) (defScope s_shift_L) .none kV dc pm an cd ct), osl⟩) (c : PySem.W.codeIn K cd "_law_shift" = true) (k : PySem.W.keepIn K (.ref f) = true) :
    Tx K mg "_law_shift" s_shift_L ["_law_ring_so", "_law_m"] :=
  ⟨f, _, fun_mk (st := s_shift_L) l c k, PySem.W.mg_of KX G a, (fun_mk (st := s_shift_L) l c k).binds (ps := ["_law_ring_so", "_law_m"]) (fun _ _ _ _ _ _ us hl => match us, hl with | [_, _], _ => rfl), fun s ws hl => match ws, hl with | [_, _], _ => .of_eq rfl⟩
theorem tx_turned_least_L {K : PySem.W.Frag} {h : Heap} {mg : Str → Option Value} {f : Addr} {oc kV dc pm cd ct : Value} {od an : Option Addr} {osl : Array (Option Value)} (KX : K.In h) (G : h.Ns mainGlobals mg)
    (a : PySem.W.nsIn K mainGlobals "_law_turned_least" = some (some (.ref f))) (l : K.lookup f = some ⟨oc, od, .func (PySem.W.fnOf "_law_turned_least" "_law_turned_least" (defArgs s_turned_least_L) (defBody s_turned_least_L) (defScope s_turned_least_L) .none kV dc pm an cd ct), osl⟩) (c : PySem.W.codeIn K cd "_law_turned_least" = true) (k : PySem.W.keepIn K (.ref f) = true) :
    Tx K mg "_law_turned_least" s_turned_least_L ["_law_own"] :=
  ⟨f, _, fun_mk (st := s_turned_least_L) l c k, PySem.W.mg_of KX G a, (fun_mk (st := s_turned_least_L) l c k).binds (ps := ["_law_own"]) (fun _ _ _ _ _ _ us hl => match us, hl with | [_], _ => rfl), fun s ws hl => match ws, hl with | [_], _ => .of_eq rfl⟩
theorem tx_greatest_L {K : PySem.W.Frag} {h : Heap} {mg : Str → Option Value} {f : Addr} {oc kV dc pm cd ct : Value} {od an : Option Addr} {osl : Array (Option Value)} (KX : K.In h) (G : h.Ns mainGlobals mg)
    (a : PySem.W.nsIn K mainGlobals "_law_greatest" = some (some (.ref f))) (l : K.lookup f = some ⟨oc, od, .func (PySem.W.fnOf "_law_greatest" "_law_greatest" (defArgs s_greatest_L) (defBody s_greatest_L) (defScope s_greatest_L) .none kV dc pm an cd ct), osl⟩) (c : PySem.W.codeIn K cd "_law_greatest" = true) (k : PySem.W.keepIn K (.ref f) = true) :
    Tx K mg "_law_greatest" s_greatest_L ["_law_spots_so", "_law_m", "_law_ring_so"] :=
  ⟨f, _, fun_mk (st := s_greatest_L) l c k, PySem.W.mg_of KX G a, (fun_mk (st := s_greatest_L) l c k).binds (ps := ["_law_spots_so", "_law_m", "_law_ring_so"]) (fun _ _ _ _ _ _ us hl => match us, hl with | [_, _, _], _ => rfl), fun s ws hl => match ws, hl with | [_, _, _], _ => .of_eq rfl⟩
theorem tx_is_number {K : PySem.W.Frag} {h : Heap} {mg : Str → Option Value} {f : Addr} {oc kV dc pm cd ct : Value} {od an : Option Addr} {osl : Array (Option Value)} (KX : K.In h) (G : h.Ns mainGlobals mg)
    (a : PySem.W.nsIn K mainGlobals "is_number" = some (some (.ref f))) (l : K.lookup f = some ⟨oc, od, .func (PySem.W.fnOf "is_number" "is_number" (defArgs s_is_number) (defBody s_is_number) (defScope s_is_number) .none kV dc pm an cd ct), osl⟩) (c : PySem.W.codeIn K cd "is_number" = true) (k : PySem.W.keepIn K (.ref f) = true) :
    Tx K mg "is_number" s_is_number ["thing"] :=
  ⟨f, _, fun_mk (st := s_is_number) l c k, PySem.W.mg_of KX G a, (fun_mk (st := s_is_number) l c k).binds (ps := ["thing"]) (fun _ _ _ _ _ _ us hl => match us, hl with | [_], _ => rfl), fun s ws hl => match ws, hl with | [_], _ => .of_eq rfl⟩
theorem tx_is_from {K : PySem.W.Frag} {h : Heap} {mg : Str → Option Value} {f : Addr} {oc kV dc pm cd ct : Value} {od an : Option Addr} {osl : Array (Option Value)} (KX : K.In h) (G : h.Ns mainGlobals mg)
    (a : PySem.W.nsIn K mainGlobals "is_from" = some (some (.ref f))) (l : K.lookup f = some ⟨oc, od, .func (PySem.W.fnOf "is_from" "is_from" (defArgs s_is_from) (defBody s_is_from) (defScope s_is_from) .none kV dc pm an cd ct), osl⟩) (c : PySem.W.codeIn K cd "is_from" = true) (k : PySem.W.keepIn K (.ref f) = true) :
    Tx K mg "is_from" s_is_from ["thing", "least"] :=
  ⟨f, _, fun_mk (st := s_is_from) l c k, PySem.W.mg_of KX G a, (fun_mk (st := s_is_from) l c k).binds (ps := ["thing", "least"]) (fun _ _ _ _ _ _ us hl => match us, hl with | [_, _], _ => rfl), fun s ws hl => match ws, hl with | [_, _], _ => .of_eq rfl⟩
theorem tx_tupled {K : PySem.W.Frag} {h : Heap} {mg : Str → Option Value} {f : Addr} {oc kV dc pm cd ct : Value} {od an : Option Addr} {osl : Array (Option Value)} (KX : K.In h) (G : h.Ns mainGlobals mg)
    (a : PySem.W.nsIn K mainGlobals "tupled" = some (some (.ref f))) (l : K.lookup f = some ⟨oc, od, .func (PySem.W.fnOf "tupled" "tupled" (defArgs s_tupled) (defBody s_tupled) (defScope s_tupled) .none kV dc pm an cd ct), osl⟩) (c : PySem.W.codeIn K cd "tupled" = true) (k : PySem.W.keepIn K (.ref f) = true) :
    Tx K mg "tupled" s_tupled ["value"] :=
  ⟨f, _, fun_mk (st := s_tupled) l c k, PySem.W.mg_of KX G a, (fun_mk (st := s_tupled) l c k).binds (ps := ["value"]) (fun _ _ _ _ _ _ us hl => match us, hl with | [_], _ => rfl), fun s ws hl => match ws, hl with | [_], _ => .of_eq rfl⟩
theorem tx_lists_L {K : PySem.W.Frag} {h : Heap} {mg : Str → Option Value} {f : Addr} {oc kV dc pm cd ct : Value} {od an : Option Addr} {osl : Array (Option Value)} (KX : K.In h) (G : h.Ns mainGlobals mg)
    (a : PySem.W.nsIn K mainGlobals "_law_lists" = some (some (.ref f))) (l : K.lookup f = some ⟨oc, od, .func (PySem.W.fnOf "_law_lists" "_law_lists" (defArgs s_lists_L) (defBody s_lists_L) (defScope s_lists_L) .none kV dc pm an cd ct), osl⟩) (c : PySem.W.codeIn K cd "_law_lists" = true) (k : PySem.W.keepIn K (.ref f) = true) :
    Tx K mg "_law_lists" s_lists_L ["_law_matter"] :=
  ⟨f, _, fun_mk (st := s_lists_L) l c k, PySem.W.mg_of KX G a, (fun_mk (st := s_lists_L) l c k).binds (ps := ["_law_matter"]) (fun _ _ _ _ _ _ us hl => match us, hl with | [_], _ => rfl), fun s ws hl => match ws, hl with | [_], _ => .of_eq rfl⟩
theorem tx_same_L {K : PySem.W.Frag} {h : Heap} {mg : Str → Option Value} {f : Addr} {oc kV dc pm cd ct : Value} {od an : Option Addr} {osl : Array (Option Value)} (KX : K.In h) (G : h.Ns mainGlobals mg)
    (a : PySem.W.nsIn K mainGlobals "_law_same" = some (some (.ref f))) (l : K.lookup f = some ⟨oc, od, .func (PySem.W.fnOf "_law_same" "_law_same" (defArgs s_same_L) (defBody s_same_L) (defScope s_same_L) .none kV dc pm an cd ct), osl⟩) (c : PySem.W.codeIn K cd "_law_same" = true) (k : PySem.W.keepIn K (.ref f) = true) :
    Tx K mg "_law_same" s_same_L ["_law_got", "_law_due"] :=
  ⟨f, _, fun_mk (st := s_same_L) l c k, PySem.W.mg_of KX G a, (fun_mk (st := s_same_L) l c k).binds (ps := ["_law_got", "_law_due"]) (fun _ _ _ _ _ _ us hl => match us, hl with | [_, _], _ => rfl), fun s ws hl => match ws, hl with | [_, _], _ => .of_eq rfl⟩
theorem tx_is_wheel {K : PySem.W.Frag} {h : Heap} {mg : Str → Option Value} {f : Addr} {oc kV dc pm cd ct : Value} {od an : Option Addr} {osl : Array (Option Value)} (KX : K.In h) (G : h.Ns mainGlobals mg)
    (a : PySem.W.nsIn K mainGlobals "is_wheel" = some (some (.ref f))) (l : K.lookup f = some ⟨oc, od, .func (PySem.W.fnOf "is_wheel" "is_wheel" (defArgs s_is_wheel) (defBody s_is_wheel) (defScope s_is_wheel) .none kV dc pm an cd ct), osl⟩) (c : PySem.W.codeIn K cd "is_wheel" = true) (k : PySem.W.keepIn K (.ref f) = true) :
    Tx K mg "is_wheel" s_is_wheel ["thing"] :=
  ⟨f, _, fun_mk (st := s_is_wheel) l c k, PySem.W.mg_of KX G a, (fun_mk (st := s_is_wheel) l c k).binds (ps := ["thing"]) (fun _ _ _ _ _ _ us hl => match us, hl with | [_], _ => rfl), fun s ws hl => match ws, hl with | [_], _ => .of_eq rfl⟩
theorem tx_is_train {K : PySem.W.Frag} {h : Heap} {mg : Str → Option Value} {f : Addr} {oc kV dc pm cd ct : Value} {od an : Option Addr} {osl : Array (Option Value)} (KX : K.In h) (G : h.Ns mainGlobals mg)
    (a : PySem.W.nsIn K mainGlobals "is_train" = some (some (.ref f))) (l : K.lookup f = some ⟨oc, od, .func (PySem.W.fnOf "is_train" "is_train" (defArgs s_is_train) (defBody s_is_train) (defScope s_is_train) .none kV dc pm an cd ct), osl⟩) (c : PySem.W.codeIn K cd "is_train" = true) (k : PySem.W.keepIn K (.ref f) = true) :
    Tx K mg "is_train" s_is_train ["thing"] :=
  ⟨f, _, fun_mk (st := s_is_train) l c k, PySem.W.mg_of KX G a, (fun_mk (st := s_is_train) l c k).binds (ps := ["thing"]) (fun _ _ _ _ _ _ us hl => match us, hl with | [_], _ => rfl), fun s ws hl => match ws, hl with | [_], _ => .of_eq rfl⟩
theorem tx_sure_train {K : PySem.W.Frag} {h : Heap} {mg : Str → Option Value} {f : Addr} {oc kV dc pm cd ct : Value} {od an : Option Addr} {osl : Array (Option Value)} (KX : K.In h) (G : h.Ns mainGlobals mg)
    (a : PySem.W.nsIn K mainGlobals "sure_train" = some (some (.ref f))) (l : K.lookup f = some ⟨oc, od, .func (PySem.W.fnOf "sure_train" "sure_train" (defArgs s_sure_train) (defBody s_sure_train) (defScope s_sure_train) .none kV dc pm an cd ct), osl⟩) (c : PySem.W.codeIn K cd "sure_train" = true) (k : PySem.W.keepIn K (.ref f) = true) :
    Tx K mg "sure_train" s_sure_train ["train"] :=
  ⟨f, _, fun_mk (st := s_sure_train) l c k, PySem.W.mg_of KX G a, (fun_mk (st := s_sure_train) l c k).binds (ps := ["train"]) (fun _ _ _ _ _ _ us hl => match us, hl with | [_], _ => rfl), fun s ws hl => match ws, hl with | [_], _ => .of_eq rfl⟩
theorem tx_is_word {K : PySem.W.Frag} {h : Heap} {mg : Str → Option Value} {f : Addr} {oc kV dc pm cd ct : Value} {od an : Option Addr} {osl : Array (Option Value)} (KX : K.In h) (G : h.Ns mainGlobals mg)
    (a : PySem.W.nsIn K mainGlobals "is_word" = some (some (.ref f))) (l : K.lookup f = some ⟨oc, od, .func (PySem.W.fnOf "is_word" "is_word" (defArgs s_is_word) (defBody s_is_word) (defScope s_is_word) .none kV dc pm an cd ct), osl⟩) (c : PySem.W.codeIn K cd "is_word" = true) (k : PySem.W.keepIn K (.ref f) = true) :
    Tx K mg "is_word" s_is_word ["thing"] :=
  ⟨f, _, fun_mk (st := s_is_word) l c k, PySem.W.mg_of KX G a, (fun_mk (st := s_is_word) l c k).binds (ps := ["thing"]) (fun _ _ _ _ _ _ us hl => match us, hl with | [_], _ => rfl), fun s ws hl => match ws, hl with | [_], _ => .of_eq rfl⟩
theorem tx_is_row {K : PySem.W.Frag} {h : Heap} {mg : Str → Option Value} {f : Addr} {oc kV dc pm cd ct : Value} {od an : Option Addr} {osl : Array (Option Value)} (KX : K.In h) (G : h.Ns mainGlobals mg)
    (a : PySem.W.nsIn K mainGlobals "is_row" = some (some (.ref f))) (l : K.lookup f = some ⟨oc, od, .func (PySem.W.fnOf "is_row" "is_row" (defArgs s_is_row) (defBody s_is_row) (defScope s_is_row) .none kV dc pm an cd ct), osl⟩) (c : PySem.W.codeIn K cd "is_row" = true) (k : PySem.W.keepIn K (.ref f) = true) :
    Tx K mg "is_row" s_is_row ["thing"] :=
  ⟨f, _, fun_mk (st := s_is_row) l c k, PySem.W.mg_of KX G a, (fun_mk (st := s_is_row) l c k).binds (ps := ["thing"]) (fun _ _ _ _ _ _ us hl => match us, hl with | [_], _ => rfl), fun s ws hl => match ws, hl with | [_], _ => .of_eq rfl⟩
theorem tx_sure_word {K : PySem.W.Frag} {h : Heap} {mg : Str → Option Value} {f : Addr} {oc kV dc pm cd ct : Value} {od an : Option Addr} {osl : Array (Option Value)} (KX : K.In h) (G : h.Ns mainGlobals mg)
    (a : PySem.W.nsIn K mainGlobals "sure_word" = some (some (.ref f))) (l : K.lookup f = some ⟨oc, od, .func (PySem.W.fnOf "sure_word" "sure_word" (defArgs s_sure_word) (defBody s_sure_word) (defScope s_sure_word) .none kV dc pm an cd ct), osl⟩) (c : PySem.W.codeIn K cd "sure_word" = true) (k : PySem.W.keepIn K (.ref f) = true) :
    Tx K mg "sure_word" s_sure_word ["word"] :=
  ⟨f, _, fun_mk (st := s_sure_word) l c k, PySem.W.mg_of KX G a, (fun_mk (st := s_sure_word) l c k).binds (ps := ["word"]) (fun _ _ _ _ _ _ us hl => match us, hl with | [_], _ => rfl), fun s ws hl => match ws, hl with | [_], _ => .of_eq rfl⟩
theorem tx_sure_numbers {K : PySem.W.Frag} {h : Heap} {mg : Str → Option Value} {f : Addr} {oc kV dc pm cd ct : Value} {od an : Option Addr} {osl : Array (Option Value)} (KX : K.In h) (G : h.Ns mainGlobals mg)
    (a : PySem.W.nsIn K mainGlobals "sure_numbers" = some (some (.ref f))) (l : K.lookup f = some ⟨oc, od, .func (PySem.W.fnOf "sure_numbers" "sure_numbers" (defArgs s_sure_numbers) (defBody s_sure_numbers) (defScope s_sure_numbers) .none kV dc pm an cd ct), osl⟩) (c : PySem.W.codeIn K cd "sure_numbers" = true) (k : PySem.W.keepIn K (.ref f) = true) :
    Tx K mg "sure_numbers" s_sure_numbers ["numbers", "least"] :=
  ⟨f, _, fun_mk (st := s_sure_numbers) l c k, PySem.W.mg_of KX G a, (fun_mk (st := s_sure_numbers) l c k).binds (ps := ["numbers", "least"]) (fun _ _ _ _ _ _ us hl => match us, hl with | [_, _], _ => rfl), fun s ws hl => match ws, hl with | [_, _], _ => .of_eq rfl⟩
theorem tx_sure_row {K : PySem.W.Frag} {h : Heap} {mg : Str → Option Value} {f : Addr} {oc kV dc pm cd ct : Value} {od an : Option Addr} {osl : Array (Option Value)} (KX : K.In h) (G : h.Ns mainGlobals mg)
    (a : PySem.W.nsIn K mainGlobals "sure_row" = some (some (.ref f))) (l : K.lookup f = some ⟨oc, od, .func (PySem.W.fnOf "sure_row" "sure_row" (defArgs s_sure_row) (defBody s_sure_row) (defScope s_sure_row) .none kV dc pm an cd ct), osl⟩) (c : PySem.W.codeIn K cd "sure_row" = true) (k : PySem.W.keepIn K (.ref f) = true) :
    Tx K mg "sure_row" s_sure_row ["row", "numbers"] :=
  ⟨f, _, fun_mk (st := s_sure_row) l c k, PySem.W.mg_of KX G a, (fun_mk (st := s_sure_row) l c k).binds (ps := ["row", "numbers"]) (fun _ _ _ _ _ _ us hl => match us, hl with | [_, _], _ => rfl), fun s ws hl => match ws, hl with | [_, _], _ => .of_eq rfl⟩
theorem tx_places_in {K : PySem.W.Frag} {h : Heap} {mg : Str → Option Value} {f : Addr} {oc kV dc pm cd ct : Value} {od an : Option Addr} {osl : Array (Option Value)} (KX : K.In h) (G : h.Ns mainGlobals mg)
    (a : PySem.W.nsIn K mainGlobals "places_in" = some (some (.ref f))) (l : K.lookup f = some ⟨oc, od, .func (PySem.W.fnOf "places_in" "places_in" (defArgs s_places_in) (defBody s_places_in) (defScope s_places_in) .none kV dc pm an cd ct), osl⟩) (c : PySem.W.codeIn K cd "places_in" = true) (k : PySem.W.keepIn K (.ref f) = true) :
    Tx K mg "places_in" s_places_in ["wheel", "place"] :=
  ⟨f, _, fun_mk (st := s_places_in) l c k, PySem.W.mg_of KX G a, (fun_mk (st := s_places_in) l c k).binds (ps := ["wheel", "place"]) (fun _ _ _ _ _ _ us hl => match us, hl with | [_, _], _ => rfl), fun s ws hl => match ws, hl with | [_, _], _ => .of_eq rfl⟩
theorem tx_own_in {K : PySem.W.Frag} {h : Heap} {mg : Str → Option Value} {f : Addr} {oc kV dc pm cd ct : Value} {od an : Option Addr} {osl : Array (Option Value)} (KX : K.In h) (G : h.Ns mainGlobals mg)
    (a : PySem.W.nsIn K mainGlobals "own_in" = some (some (.ref f))) (l : K.lookup f = some ⟨oc, od, .func (PySem.W.fnOf "own_in" "own_in" (defArgs s_own_in) (defBody s_own_in) (defScope s_own_in) .none kV dc pm an cd ct), osl⟩) (c : PySem.W.codeIn K cd "own_in" = true) (k : PySem.W.keepIn K (.ref f) = true) :
    Tx K mg "own_in" s_own_in ["wheel"] :=
  ⟨f, _, fun_mk (st := s_own_in) l c k, PySem.W.mg_of KX G a, (fun_mk (st := s_own_in) l c k).binds (ps := ["wheel"]) (fun _ _ _ _ _ _ us hl => match us, hl with | [_], _ => rfl), fun s ws hl => match ws, hl with | [_], _ => .of_eq rfl⟩
theorem tx_come_back_in {K : PySem.W.Frag} {h : Heap} {mg : Str → Option Value} {f : Addr} {oc kV dc pm cd ct : Value} {od an : Option Addr} {osl : Array (Option Value)} (KX : K.In h) (G : h.Ns mainGlobals mg)
    (a : PySem.W.nsIn K mainGlobals "come_back_in" = some (some (.ref f))) (l : K.lookup f = some ⟨oc, od, .func (PySem.W.fnOf "come_back_in" "come_back_in" (defArgs s_come_back_in) (defBody s_come_back_in) (defScope s_come_back_in) .none kV dc pm an cd ct), osl⟩) (c : PySem.W.codeIn K cd "come_back_in" = true) (k : PySem.W.keepIn K (.ref f) = true) :
    Tx K mg "come_back_in" s_come_back_in ["wheel"] :=
  ⟨f, _, fun_mk (st := s_come_back_in) l c k, PySem.W.mg_of KX G a, (fun_mk (st := s_come_back_in) l c k).binds (ps := ["wheel"]) (fun _ _ _ _ _ _ us hl => match us, hl with | [_], _ => rfl), fun s ws hl => match ws, hl with | [_], _ => .of_eq rfl⟩
theorem tx_back_L {K : PySem.W.Frag} {h : Heap} {mg : Str → Option Value} {f : Addr} {oc kV dc pm cd ct : Value} {od an : Option Addr} {osl : Array (Option Value)} (KX : K.In h) (G : h.Ns mainGlobals mg)
    (a : PySem.W.nsIn K mainGlobals "_law_back" = some (some (.ref f))) (l : K.lookup f = some ⟨oc, od, .func (PySem.W.fnOf "_law_back" "_law_back" (defArgs s_back_L) (defBody s_back_L) (defScope s_back_L) .none kV dc pm an cd ct), osl⟩) (c : PySem.W.codeIn K cd "_law_back" = true) (k : PySem.W.keepIn K (.ref f) = true) :
    Tx K mg "_law_back" s_back_L ["_law_disk_here"] :=
  ⟨f, _, fun_mk (st := s_back_L) l c k, PySem.W.mg_of KX G a, (fun_mk (st := s_back_L) l c k).binds (ps := ["_law_disk_here"]) (fun _ _ _ _ _ _ us hl => match us, hl with | [_], _ => rfl), fun s ws hl => match ws, hl with | [_], _ => .of_eq rfl⟩
theorem tx_orbit_L {K : PySem.W.Frag} {h : Heap} {mg : Str → Option Value} {f : Addr} {oc kV dc pm cd ct : Value} {od an : Option Addr} {osl : Array (Option Value)} (KX : K.In h) (G : h.Ns mainGlobals mg)
    (a : PySem.W.nsIn K mainGlobals "_law_orbit" = some (some (.ref f))) (l : K.lookup f = some ⟨oc, od, .func (PySem.W.fnOf "_law_orbit" "_law_orbit" (defArgs s_orbit_L) (defBody s_orbit_L) (defScope s_orbit_L) .none kV dc pm an cd ct), osl⟩) (c : PySem.W.codeIn K cd "_law_orbit" = true) (k : PySem.W.keepIn K (.ref f) = true) :
    Tx K mg "_law_orbit" s_orbit_L ["_law_disk_here"] :=
  ⟨f, _, fun_mk (st := s_orbit_L) l c k, PySem.W.mg_of KX G a, (fun_mk (st := s_orbit_L) l c k).binds (ps := ["_law_disk_here"]) (fun _ _ _ _ _ _ us hl => match us, hl with | [_], _ => rfl), fun s ws hl => match ws, hl with | [_], _ => .of_eq rfl⟩
theorem tx_all_rows {K : PySem.W.Frag} {h : Heap} {mg : Str → Option Value} {f : Addr} {oc kV dc pm cd ct : Value} {od an : Option Addr} {osl : Array (Option Value)} (KX : K.In h) (G : h.Ns mainGlobals mg)
    (a : PySem.W.nsIn K mainGlobals "all_rows" = some (some (.ref f))) (l : K.lookup f = some ⟨oc, od, .func (PySem.W.fnOf "all_rows" "all_rows" (defArgs s_all_rows) (defBody s_all_rows) (defScope s_all_rows) .none kV dc pm an cd ct), osl⟩) (c : PySem.W.codeIn K cd "all_rows" = true) (k : PySem.W.keepIn K (.ref f) = true) :
    Tx K mg "all_rows" s_all_rows ["numbers"] :=
  ⟨f, _, fun_mk (st := s_all_rows) l c k, PySem.W.mg_of KX G a, (fun_mk (st := s_all_rows) l c k).binds (ps := ["numbers"]) (fun _ _ _ _ _ _ us hl => match us, hl with | [_], _ => rfl), fun s ws hl => match ws, hl with | [_], _ => .of_eq rfl⟩
theorem tx_many_rows {K : PySem.W.Frag} {h : Heap} {mg : Str → Option Value} {f : Addr} {oc kV dc pm cd ct : Value} {od an : Option Addr} {osl : Array (Option Value)} (KX : K.In h) (G : h.Ns mainGlobals mg)
    (a : PySem.W.nsIn K mainGlobals "many_rows" = some (some (.ref f))) (l : K.lookup f = some ⟨oc, od, .func (PySem.W.fnOf "many_rows" "many_rows" (defArgs s_many_rows) (defBody s_many_rows) (defScope s_many_rows) .none kV dc pm an cd ct), osl⟩) (c : PySem.W.codeIn K cd "many_rows" = true) (k : PySem.W.keepIn K (.ref f) = true) :
    Tx K mg "many_rows" s_many_rows ["numbers"] :=
  ⟨f, _, fun_mk (st := s_many_rows) l c k, PySem.W.mg_of KX G a, (fun_mk (st := s_many_rows) l c k).binds (ps := ["numbers"]) (fun _ _ _ _ _ _ us hl => match us, hl with | [_], _ => rfl), fun s ws hl => match ws, hl with | [_], _ => .of_eq rfl⟩
theorem tx_rows_in {K : PySem.W.Frag} {h : Heap} {mg : Str → Option Value} {f : Addr} {oc kV dc pm cd ct : Value} {od an : Option Addr} {osl : Array (Option Value)} (KX : K.In h) (G : h.Ns mainGlobals mg)
    (a : PySem.W.nsIn K mainGlobals "rows_in" = some (some (.ref f))) (l : K.lookup f = some ⟨oc, od, .func (PySem.W.fnOf "rows_in" "rows_in" (defArgs s_rows_in) (defBody s_rows_in) (defScope s_rows_in) .none kV dc pm an cd ct), osl⟩) (c : PySem.W.codeIn K cd "rows_in" = true) (k : PySem.W.keepIn K (.ref f) = true) :
    Tx K mg "rows_in" s_rows_in ["numbers"] :=
  ⟨f, _, fun_mk (st := s_rows_in) l c k, PySem.W.mg_of KX G a, (fun_mk (st := s_rows_in) l c k).binds (ps := ["numbers"]) (fun _ _ _ _ _ _ us hl => match us, hl with | [_], _ => rfl), fun s ws hl => match ws, hl with | [_], _ => .of_eq rfl⟩
theorem tx_rows {K : PySem.W.Frag} {h : Heap} {mg : Str → Option Value} {f : Addr} {oc kV dc pm cd ct : Value} {od an : Option Addr} {osl : Array (Option Value)} (KX : K.In h) (G : h.Ns mainGlobals mg)
    (a : PySem.W.nsIn K mainGlobals "rows" = some (some (.ref f))) (l : K.lookup f = some ⟨oc, od, .func (PySem.W.fnOf "rows" "rows" (defArgs s_rows) (defBody s_rows) (defScope s_rows) .none kV dc pm an cd ct), osl⟩) (c : PySem.W.codeIn K cd "rows" = true) (k : PySem.W.keepIn K (.ref f) = true) :
    Tx K mg "rows" s_rows ["numbers"] :=
  ⟨f, _, fun_mk (st := s_rows) l c k, PySem.W.mg_of KX G a, (fun_mk (st := s_rows) l c k).binds (ps := ["numbers"]) (fun _ _ _ _ _ _ us hl => match us, hl with | [_], _ => rfl), fun s ws hl => match ws, hl with | [_], _ => .of_eq rfl⟩
theorem tx_led_in_row {K : PySem.W.Frag} {h : Heap} {mg : Str → Option Value} {f : Addr} {oc kV dc pm cd ct : Value} {od an : Option Addr} {osl : Array (Option Value)} (KX : K.In h) (G : h.Ns mainGlobals mg)
    (a : PySem.W.nsIn K mainGlobals "led_in_row" = some (some (.ref f))) (l : K.lookup f = some ⟨oc, od, .func (PySem.W.fnOf "led_in_row" "led_in_row" (defArgs s_led_in_row) (defBody s_led_in_row) (defScope s_led_in_row) .none kV dc pm an cd ct), osl⟩) (c : PySem.W.codeIn K cd "led_in_row" = true) (k : PySem.W.keepIn K (.ref f) = true) :
    Tx K mg "led_in_row" s_led_in_row ["row", "numbers"] :=
  ⟨f, _, fun_mk (st := s_led_in_row) l c k, PySem.W.mg_of KX G a, (fun_mk (st := s_led_in_row) l c k).binds (ps := ["row", "numbers"]) (fun _ _ _ _ _ _ us hl => match us, hl with | [_, _], _ => rfl), fun s ws hl => match ws, hl with | [_, _], _ => .of_eq rfl⟩
theorem tx_led_train {K : PySem.W.Frag} {h : Heap} {mg : Str → Option Value} {f : Addr} {oc kV dc pm cd ct : Value} {od an : Option Addr} {osl : Array (Option Value)} (KX : K.In h) (G : h.Ns mainGlobals mg)
    (a : PySem.W.nsIn K mainGlobals "led_train" = some (some (.ref f))) (l : K.lookup f = some ⟨oc, od, .func (PySem.W.fnOf "led_train" "led_train" (defArgs s_led_train) (defBody s_led_train) (defScope s_led_train) .none kV dc pm an cd ct), osl⟩) (c : PySem.W.codeIn K cd "led_train" = true) (k : PySem.W.keepIn K (.ref f) = true) :
    Tx K mg "led_train" s_led_train ["row", "numbers"] :=
  ⟨f, _, fun_mk (st := s_led_train) l c k, PySem.W.mg_of KX G a, (fun_mk (st := s_led_train) l c k).binds (ps := ["row", "numbers"]) (fun _ _ _ _ _ _ us hl => match us, hl with | [_, _], _ => rfl), fun s ws hl => match ws, hl with | [_, _], _ => .of_eq rfl⟩
theorem tx_row_of {K : PySem.W.Frag} {h : Heap} {mg : Str → Option Value} {f : Addr} {oc kV dc pm cd ct : Value} {od an : Option Addr} {osl : Array (Option Value)} (KX : K.In h) (G : h.Ns mainGlobals mg)
    (a : PySem.W.nsIn K mainGlobals "row_of" = some (some (.ref f))) (l : K.lookup f = some ⟨oc, od, .func (PySem.W.fnOf "row_of" "row_of" (defArgs s_row_of) (defBody s_row_of) (defScope s_row_of) .none kV dc pm an cd ct), osl⟩) (c : PySem.W.codeIn K cd "row_of" = true) (k : PySem.W.keepIn K (.ref f) = true) :
    Tx K mg "row_of" s_row_of ["train"] :=
  ⟨f, _, fun_mk (st := s_row_of) l c k, PySem.W.mg_of KX G a, (fun_mk (st := s_row_of) l c k).binds (ps := ["train"]) (fun _ _ _ _ _ _ us hl => match us, hl with | [_], _ => rfl), fun s ws hl => match ws, hl with | [_], _ => .of_eq rfl⟩
theorem tx_led_disks_L {K : PySem.W.Frag} {h : Heap} {mg : Str → Option Value} {f : Addr} {oc kV dc pm cd ct : Value} {od an : Option Addr} {osl : Array (Option Value)} (KX : K.In h) (G : h.Ns mainGlobals mg)
    (a : PySem.W.nsIn K mainGlobals "_law_led_disks" = some (some (.ref f))) (l : K.lookup f = some ⟨oc, od, .func (PySem.W.fnOf "_law_led_disks" "_law_led_disks" (defArgs s_led_disks_L) (defBody s_led_disks_L) (defScope s_led_disks_L) .none kV dc pm an cd ct), osl⟩) (c : PySem.W.codeIn K cd "_law_led_disks" = true) (k : PySem.W.keepIn K (.ref f) = true) :
    Tx K mg "_law_led_disks" s_led_disks_L ["_law_row_so", "_law_steps_so"] :=
  ⟨f, _, fun_mk (st := s_led_disks_L) l c k, PySem.W.mg_of KX G a, (fun_mk (st := s_led_disks_L) l c k).binds (ps := ["_law_row_so", "_law_steps_so"]) (fun _ _ _ _ _ _ us hl => match us, hl with | [_, _], _ => rfl), fun s ws hl => match ws, hl with | [_, _], _ => .of_eq rfl⟩
theorem tx_shared_L {K : PySem.W.Frag} {h : Heap} {mg : Str → Option Value} {f : Addr} {oc kV dc pm cd ct : Value} {od an : Option Addr} {osl : Array (Option Value)} (KX : K.In h) (G : h.Ns mainGlobals mg)
    (a : PySem.W.nsIn K mainGlobals "_law_shared" = some (some (.ref f))) (l : K.lookup f = some ⟨oc, od, .func (PySem.W.fnOf "_law_shared" "_law_shared" (defArgs s_shared_L) (defBody s_shared_L) (defScope s_shared_L) .none kV dc pm an cd ct), osl⟩) (c : PySem.W.codeIn K cd "_law_shared" = true) (k : PySem.W.keepIn K (.ref f) = true) :
    Tx K mg "_law_shared" s_shared_L ["_law_one_so", "_law_two_so"] :=
  ⟨f, _, fun_mk (st := s_shared_L) l c k, PySem.W.mg_of KX G a, (fun_mk (st := s_shared_L) l c k).binds (ps := ["_law_one_so", "_law_two_so"]) (fun _ _ _ _ _ _ us hl => match us, hl with | [_, _], _ => rfl), fun s ws hl => match ws, hl with | [_, _], _ => .of_eq rfl⟩
theorem tx_many_L {K : PySem.W.Frag} {h : Heap} {mg : Str → Option Value} {f : Addr} {oc kV dc pm cd ct : Value} {od an : Option Addr} {osl : Array (Option Value)} (KX : K.In h) (G : h.Ns mainGlobals mg)
    (a : PySem.W.nsIn K mainGlobals "_law_many" = some (some (.ref f))) (l : K.lookup f = some ⟨oc, od, .func (PySem.W.fnOf "_law_many" "_law_many" (defArgs s_many_L) (defBody s_many_L) (defScope s_many_L) .none kV dc pm an cd ct), osl⟩) (c : PySem.W.codeIn K cd "_law_many" = true) (k : PySem.W.keepIn K (.ref f) = true) :
    Tx K mg "_law_many" s_many_L ["_law_numbers_so"] :=
  ⟨f, _, fun_mk (st := s_many_L) l c k, PySem.W.mg_of KX G a, (fun_mk (st := s_many_L) l c k).binds (ps := ["_law_numbers_so"]) (fun _ _ _ _ _ _ us hl => match us, hl with | [_], _ => rfl), fun s ws hl => match ws, hl with | [_], _ => .of_eq rfl⟩
theorem tx_count_L {K : PySem.W.Frag} {h : Heap} {mg : Str → Option Value} {f : Addr} {oc kV dc pm cd ct : Value} {od an : Option Addr} {osl : Array (Option Value)} (KX : K.In h) (G : h.Ns mainGlobals mg)
    (a : PySem.W.nsIn K mainGlobals "_law_count" = some (some (.ref f))) (l : K.lookup f = some ⟨oc, od, .func (PySem.W.fnOf "_law_count" "_law_count" (defArgs s_count_L) (defBody s_count_L) (defScope s_count_L) .none kV dc pm an cd ct), osl⟩) (c : PySem.W.codeIn K cd "_law_count" = true) (k : PySem.W.keepIn K (.ref f) = true) :
    Tx K mg "_law_count" s_count_L ["_law_numbers_so"] :=
  ⟨f, _, fun_mk (st := s_count_L) l c k, PySem.W.mg_of KX G a, (fun_mk (st := s_count_L) l c k).binds (ps := ["_law_numbers_so"]) (fun _ _ _ _ _ _ us hl => match us, hl with | [_], _ => rfl), fun s ws hl => match ws, hl with | [_], _ => .of_eq rfl⟩
theorem tx_rows_of_L {K : PySem.W.Frag} {h : Heap} {mg : Str → Option Value} {f : Addr} {oc kV dc pm cd ct : Value} {od an : Option Addr} {osl : Array (Option Value)} (KX : K.In h) (G : h.Ns mainGlobals mg)
    (a : PySem.W.nsIn K mainGlobals "_law_rows_of" = some (some (.ref f))) (l : K.lookup f = some ⟨oc, od, .func (PySem.W.fnOf "_law_rows_of" "_law_rows_of" (defArgs s_rows_of_L) (defBody s_rows_of_L) (defScope s_rows_of_L) .none kV dc pm an cd ct), osl⟩) (c : PySem.W.codeIn K cd "_law_rows_of" = true) (k : PySem.W.keepIn K (.ref f) = true) :
    Tx K mg "_law_rows_of" s_rows_of_L ["_law_many_so"] :=
  ⟨f, _, fun_mk (st := s_rows_of_L) l c k, PySem.W.mg_of KX G a, (fun_mk (st := s_rows_of_L) l c k).binds (ps := ["_law_many_so"]) (fun _ _ _ _ _ _ us hl => match us, hl with | [_], _ => rfl), fun s ws hl => match ws, hl with | [_], _ => .of_eq rfl⟩
theorem tx_is_greatest_L {K : PySem.W.Frag} {h : Heap} {mg : Str → Option Value} {f : Addr} {oc kV dc pm cd ct : Value} {od an : Option Addr} {osl : Array (Option Value)} (KX : K.In h) (G : h.Ns mainGlobals mg)
    (a : PySem.W.nsIn K mainGlobals "_law_is_greatest" = some (some (.ref f))) (l : K.lookup f = some ⟨oc, od, .func (PySem.W.fnOf "_law_is_greatest" "_law_is_greatest" (defArgs s_is_greatest_L) (defBody s_is_greatest_L) (defScope s_is_greatest_L) .none kV dc pm an cd ct), osl⟩) (c : PySem.W.codeIn K cd "_law_is_greatest" = true) (k : PySem.W.keepIn K (.ref f) = true) :
    Tx K mg "_law_is_greatest" s_is_greatest_L ["_law_disk_here", "_law_spots_so", "_law_m", "_law_ring_so"] :=
  ⟨f, _, fun_mk (st := s_is_greatest_L) l c k, PySem.W.mg_of KX G a, (fun_mk (st := s_is_greatest_L) l c k).binds (ps := ["_law_disk_here", "_law_spots_so", "_law_m", "_law_ring_so"]) (fun _ _ _ _ _ _ us hl => match us, hl with | [_, _, _, _], _ => rfl), fun s ws hl => match ws, hl with | [_, _, _, _], _ => .of_eq rfl⟩
theorem tx_row_by_own_L {K : PySem.W.Frag} {h : Heap} {mg : Str → Option Value} {f : Addr} {oc kV dc pm cd ct : Value} {od an : Option Addr} {osl : Array (Option Value)} (KX : K.In h) (G : h.Ns mainGlobals mg)
    (a : PySem.W.nsIn K mainGlobals "_law_row_by_own" = some (some (.ref f))) (l : K.lookup f = some ⟨oc, od, .func (PySem.W.fnOf "_law_row_by_own" "_law_row_by_own" (defArgs s_row_by_own_L) (defBody s_row_by_own_L) (defScope s_row_by_own_L) .none kV dc pm an cd ct), osl⟩) (c : PySem.W.codeIn K cd "_law_row_by_own" = true) (k : PySem.W.keepIn K (.ref f) = true) :
    Tx K mg "_law_row_by_own" s_row_by_own_L ["_law_disks_here"] :=
  ⟨f, _, fun_mk (st := s_row_by_own_L) l c k, PySem.W.mg_of KX G a, (fun_mk (st := s_row_by_own_L) l c k).binds (ps := ["_law_disks_here"]) (fun _ _ _ _ _ _ us hl => match us, hl with | [_], _ => rfl), fun s ws hl => match ws, hl with | [_], _ => .of_eq rfl⟩
theorem tx_box_L {K : PySem.W.Frag} {h : Heap} {mg : Str → Option Value} {f : Addr} {oc kV dc pm cd ct : Value} {od an : Option Addr} {osl : Array (Option Value)} (KX : K.In h) (G : h.Ns mainGlobals mg)
    (a : PySem.W.nsIn K mainGlobals "_law_box" = some (some (.ref f))) (l : K.lookup f = some ⟨oc, od, .func (PySem.W.fnOf "_law_box" "_law_box" (defArgs s_box_L) (defBody s_box_L) (defScope s_box_L) .none kV dc pm an cd ct), osl⟩) (c : PySem.W.codeIn K cd "_law_box" = true) (k : PySem.W.keepIn K (.ref f) = true) :
    Tx K mg "_law_box" s_box_L ["_law_script", "_law_k"] :=
  ⟨f, _, fun_mk (st := s_box_L) l c k, PySem.W.mg_of KX G a, (fun_mk (st := s_box_L) l c k).binds (ps := ["_law_script", "_law_k"]) (fun _ _ _ _ _ _ us hl => match us, hl with | [_, _], _ => rfl), fun s ws hl => match ws, hl with | [_, _], _ => .of_eq rfl⟩
theorem tx_take_L {K : PySem.W.Frag} {h : Heap} {mg : Str → Option Value} {f : Addr} {oc kV dc pm cd ct : Value} {od an : Option Addr} {osl : Array (Option Value)} (KX : K.In h) (G : h.Ns mainGlobals mg)
    (a : PySem.W.nsIn K mainGlobals "_law_take" = some (some (.ref f))) (l : K.lookup f = some ⟨oc, od, .func (PySem.W.fnOf "_law_take" "_law_take" (defArgs s_take_L) (defBody s_take_L) (defScope s_take_L) .none kV dc pm an cd ct), osl⟩) (c : PySem.W.codeIn K cd "_law_take" = true) (k : PySem.W.keepIn K (.ref f) = true) :
    Tx K mg "_law_take" s_take_L ["_law_tin", "_law_below_so"] :=
  ⟨f, _, fun_mk (st := s_take_L) l c k, PySem.W.mg_of KX G a, (fun_mk (st := s_take_L) l c k).binds (ps := ["_law_tin", "_law_below_so"]) (fun _ _ _ _ _ _ us hl => match us, hl with | [_, _], _ => rfl), fun s ws hl => match ws, hl with | [_, _], _ => .of_eq rfl⟩
theorem tx_of_L {K : PySem.W.Frag} {h : Heap} {mg : Str → Option Value} {f : Addr} {oc kV dc pm cd ct : Value} {od an : Option Addr} {osl : Array (Option Value)} (KX : K.In h) (G : h.Ns mainGlobals mg)
    (a : PySem.W.nsIn K mainGlobals "_law_of" = some (some (.ref f))) (l : K.lookup f = some ⟨oc, od, .func (PySem.W.fnOf "_law_of" "_law_of" (defArgs s_of_L) (defBody s_of_L) (defScope s_of_L) .none kV dc pm an cd ct), osl⟩) (c : PySem.W.codeIn K cd "_law_of" = true) (k : PySem.W.keepIn K (.ref f) = true) :
    Tx K mg "_law_of" s_of_L ["_law_tin", "_law_goods_so"] :=
  ⟨f, _, fun_mk (st := s_of_L) l c k, PySem.W.mg_of KX G a, (fun_mk (st := s_of_L) l c k).binds (ps := ["_law_tin", "_law_goods_so"]) (fun _ _ _ _ _ _ us hl => match us, hl with | [_, _], _ => rfl), fun s ws hl => match ws, hl with | [_, _], _ => .of_eq rfl⟩
theorem tx_cells_L {K : PySem.W.Frag} {h : Heap} {mg : Str → Option Value} {f : Addr} {oc kV dc pm cd ct : Value} {od an : Option Addr} {osl : Array (Option Value)} (KX : K.In h) (G : h.Ns mainGlobals mg)
    (a : PySem.W.nsIn K mainGlobals "_law_cells" = some (some (.ref f))) (l : K.lookup f = some ⟨oc, od, .func (PySem.W.fnOf "_law_cells" "_law_cells" (defArgs s_cells_L) (defBody s_cells_L) (defScope s_cells_L) .none kV dc pm an cd ct), osl⟩) (c : PySem.W.codeIn K cd "_law_cells" = true) (k : PySem.W.keepIn K (.ref f) = true) :
    Tx K mg "_law_cells" s_cells_L ["_law_script", "_law_most_so"] :=
  ⟨f, _, fun_mk (st := s_cells_L) l c k, PySem.W.mg_of KX G a, (fun_mk (st := s_cells_L) l c k).binds (ps := ["_law_script", "_law_most_so"]) (fun _ _ _ _ _ _ us hl => match us, hl with | [_, _], _ => rfl), fun s ws hl => match ws, hl with | [_, _], _ => .of_eq rfl⟩
theorem tx_disk_L {K : PySem.W.Frag} {h : Heap} {mg : Str → Option Value} {f : Addr} {oc kV dc pm cd ct : Value} {od an : Option Addr} {osl : Array (Option Value)} (KX : K.In h) (G : h.Ns mainGlobals mg)
    (a : PySem.W.nsIn K mainGlobals "_law_disk" = some (some (.ref f))) (l : K.lookup f = some ⟨oc, od, .func (PySem.W.fnOf "_law_disk" "_law_disk" (defArgs s_disk_L) (defBody s_disk_L) (defScope s_disk_L) .none kV dc pm an cd ct), osl⟩) (c : PySem.W.codeIn K cd "_law_disk" = true) (k : PySem.W.keepIn K (.ref f) = true) :
    Tx K mg "_law_disk" s_disk_L ["_law_tin", "_law_ring_so"] :=
  ⟨f, _, fun_mk (st := s_disk_L) l c k, PySem.W.mg_of KX G a, (fun_mk (st := s_disk_L) l c k).binds (ps := ["_law_tin", "_law_ring_so"]) (fun _ _ _ _ _ _ us hl => match us, hl with | [_, _], _ => rfl), fun s ws hl => match ws, hl with | [_, _], _ => .of_eq rfl⟩
theorem tx_disks_L {K : PySem.W.Frag} {h : Heap} {mg : Str → Option Value} {f : Addr} {oc kV dc pm cd ct : Value} {od an : Option Addr} {osl : Array (Option Value)} (KX : K.In h) (G : h.Ns mainGlobals mg)
    (a : PySem.W.nsIn K mainGlobals "_law_disks" = some (some (.ref f))) (l : K.lookup f = some ⟨oc, od, .func (PySem.W.fnOf "_law_disks" "_law_disks" (defArgs s_disks_L) (defBody s_disks_L) (defScope s_disks_L) .none kV dc pm an cd ct), osl⟩) (c : PySem.W.codeIn K cd "_law_disks" = true) (k : PySem.W.keepIn K (.ref f) = true) :
    Tx K mg "_law_disks" s_disks_L ["_law_tin", "_law_ring_so", "_law_many_so"] :=
  ⟨f, _, fun_mk (st := s_disks_L) l c k, PySem.W.mg_of KX G a, (fun_mk (st := s_disks_L) l c k).binds (ps := ["_law_tin", "_law_ring_so", "_law_many_so"]) (fun _ _ _ _ _ _ us hl => match us, hl with | [_, _, _], _ => rfl), fun s ws hl => match ws, hl with | [_, _, _], _ => .of_eq rfl⟩
theorem tx_by_hand_right_L {K : PySem.W.Frag} {h : Heap} {mg : Str → Option Value} {f : Addr} {oc kV dc pm cd ct : Value} {od an : Option Addr} {osl : Array (Option Value)} (KX : K.In h) (G : h.Ns mainGlobals mg)
    (a : PySem.W.nsIn K mainGlobals "_law_by_hand_right" = some (some (.ref f))) (l : K.lookup f = some ⟨oc, od, .func (PySem.W.fnOf "_law_by_hand_right" "_law_by_hand_right" (defArgs s_by_hand_right_L) (defBody s_by_hand_right_L) (defScope s_by_hand_right_L) .none kV dc pm an cd ct), osl⟩) (c : PySem.W.codeIn K cd "_law_by_hand_right" = true) (k : PySem.W.keepIn K (.ref f) = true) :
    Tx K mg "_law_by_hand_right" s_by_hand_right_L [] :=
  ⟨f, _, fun_mk (st := s_by_hand_right_L) l c k, PySem.W.mg_of KX G a, (fun_mk (st := s_by_hand_right_L) l c k).binds (ps := []) (fun _ _ _ _ _ _ us hl => match us, hl with | [], _ => rfl), fun s ws hl => match ws, hl with | [], _ => .of_eq rfl⟩
theorem all_mk {l : PySem.W.OpenLaw} {w : World} {K : PySem.W.Frag} {h : Heap} {mg : Str → Option Value} {fa : Addr} (KX : K.In h) (G : h.Ns mainGlobals mg) (hfa : mg "law" = some (.ref fa))
    {f0 : Addr} {oc0 kV0 dc0 pm0 cd0 ct0 : Value} {od0 an0 : Option Addr} {osl0 : Array (Option Value)}
    (a0 : PySem.W.nsIn K mainGlobals "led_in" = some (some (.ref f0))) (l0 : K.lookup f0 = some ⟨oc0, od0, .func (PySem.W.fnOf "led_in" "led_in" (defArgs s_led_in) (defBody s_led_in) (defScope s_led_in) .none kV0 dc0 pm0 an0 cd0 ct0), osl0⟩) (c0 : PySem.W.codeIn K cd0 "led_in" = true) (k0 : PySem.W.keepIn K (.ref f0) = true)
    {f1 : Addr} {oc1 kV1 dc1 pm1 cd1 ct1 : Value} {od1 an1 : Option Addr} {osl1 : Array (Option Value)}
    (a1 : PySem.W.nsIn K mainGlobals "name_in" = some (some (.ref f1))) (l1 : K.lookup f1 = some ⟨oc1, od1, .func (PySem.W.fnOf "name_in" "name_in" (defArgs s_name_in) (defBody s_name_in) (defScope s_name_in) .none kV1 dc1 pm1 an1 cd1 ct1), osl1⟩) (c1 : PySem.W.codeIn K cd1 "name_in" = true) (k1 : PySem.W.keepIn K (.ref f1) = true)
    {f2 : Addr} {oc2 kV2 dc2 pm2 cd2 ct2 : Value} {od2 an2 : Option Addr} {osl2 : Array (Option Value)}
    (a2 : PySem.W.nsIn K mainGlobals "behind_in" = some (some (.ref f2))) (l2 : K.lookup f2 = some ⟨oc2, od2, .func (PySem.W.fnOf "behind_in" "behind_in" (defArgs s_behind_in) (defBody s_behind_in) (defScope s_behind_in) .none kV2 dc2 pm2 an2 cd2 ct2), osl2⟩) (c2 : PySem.W.codeIn K cd2 "behind_in" = true) (k2 : PySem.W.keepIn K (.ref f2) = true)
    {f3 : Addr} {oc3 kV3 dc3 pm3 cd3 ct3 : Value} {od3 an3 : Option Addr} {osl3 : Array (Option Value)}
    (a3 : PySem.W.nsIn K mainGlobals "greatest_in" = some (some (.ref f3))) (l3 : K.lookup f3 = some ⟨oc3, od3, .func (PySem.W.fnOf "greatest_in" "greatest_in" (defArgs s_greatest_in) (defBody s_greatest_in) (defScope s_greatest_in) .none kV3 dc3 pm3 an3 cd3 ct3), osl3⟩) (c3 : PySem.W.codeIn K cd3 "greatest_in" = true) (k3 : PySem.W.keepIn K (.ref f3) = true)
    {f4 : Addr} {oc4 kV4 dc4 pm4 cd4 ct4 : Value} {od4 an4 : Option Addr} {osl4 : Array (Option Value)}
    (a4 : PySem.W.nsIn K mainGlobals "turned_in" = some (some (.ref f4))) (l4 : K.lookup f4 = some ⟨oc4, od4, .func (PySem.W.fnOf "turned_in" "turned_in" (defArgs s_turned_in) (defBody s_turned_in) (defScope s_turned_in) .none kV4 dc4 pm4 an4 cd4 ct4), osl4⟩) (c4 : PySem.W.codeIn K cd4 "turned_in" = true) (k4 : PySem.W.keepIn K (.ref f4) = true)
    {f5 : Addr} {oc5 kV5 dc5 pm5 cd5 ct5 : Value} {od5 an5 : Option Addr} {osl5 : Array (Option Value)}
    (a5 : PySem.W.nsIn K mainGlobals "least_in_turn" = some (some (.ref f5))) (l5 : K.lookup f5 = some ⟨oc5, od5, .func (PySem.W.fnOf "least_in_turn" "least_in_turn" (defArgs s_least_in_turn) (defBody s_least_in_turn) (defScope s_least_in_turn) .none kV5 dc5 pm5 an5 cd5 ct5), osl5⟩) (c5 : PySem.W.codeIn K cd5 "least_in_turn" = true) (k5 : PySem.W.keepIn K (.ref f5) = true)
    {f6 : Addr} {oc6 kV6 dc6 pm6 cd6 ct6 : Value} {od6 an6 : Option Addr} {osl6 : Array (Option Value)}
    (a6 : PySem.W.nsIn K mainGlobals "_law_led" = some (some (.ref f6))) (l6 : K.lookup f6 = some ⟨oc6, od6, .func (PySem.W.fnOf "_law_led" "_law_led" (defArgs s_led_L) (defBody s_led_L) (defScope s_led_L) .none kV6 dc6 pm6 an6 cd6 ct6), osl6⟩) (c6 : PySem.W.codeIn K cd6 "_law_led" = true) (k6 : PySem.W.keepIn K (.ref f6) = true)
    {f7 : Addr} {oc7 kV7 dc7 pm7 cd7 ct7 : Value} {od7 an7 : Option Addr} {osl7 : Array (Option Value)}
    (a7 : PySem.W.nsIn K mainGlobals "_law_told_on" = some (some (.ref f7))) (l7 : K.lookup f7 = some ⟨oc7, od7, .func (PySem.W.fnOf "_law_told_on" "_law_told_on" (defArgs s_told_on_L) (defBody s_told_on_L) (defScope s_told_on_L) .none kV7 dc7 pm7 an7 cd7 ct7), osl7⟩) (c7 : PySem.W.codeIn K cd7 "_law_told_on" = true) (k7 : PySem.W.keepIn K (.ref f7) = true)
    {f8 : Addr} {oc8 kV8 dc8 pm8 cd8 ct8 : Value} {od8 an8 : Option Addr} {osl8 : Array (Option Value)}
    (a8 : PySem.W.nsIn K mainGlobals "_law_name_ahead" = some (some (.ref f8))) (l8 : K.lookup f8 = some ⟨oc8, od8, .func (PySem.W.fnOf "_law_name_ahead" "_law_name_ahead" (defArgs s_name_ahead_L) (defBody s_name_ahead_L) (defScope s_name_ahead_L) .none kV8 dc8 pm8 an8 cd8 ct8), osl8⟩) (c8 : PySem.W.codeIn K cd8 "_law_name_ahead" = true) (k8 : PySem.W.keepIn K (.ref f8) = true)
    {f9 : Addr} {oc9 kV9 dc9 pm9 cd9 ct9 : Value} {od9 an9 : Option Addr} {osl9 : Array (Option Value)}
    (a9 : PySem.W.nsIn K mainGlobals "_law_shift" = some (some (.ref f9))) (l9 : K.lookup f9 = some ⟨oc9, od9, .func (PySem.W.fnOf "_law_shift" "_law_shift" (defArgs s_shift_L) (defBody s_shift_L) (defScope s_shift_L) .none kV9 dc9 pm9 an9 cd9 ct9), osl9⟩) (c9 : PySem.W.codeIn K cd9 "_law_shift" = true) (k9 : PySem.W.keepIn K (.ref f9) = true)
    {f10 : Addr} {oc10 kV10 dc10 pm10 cd10 ct10 : Value} {od10 an10 : Option Addr} {osl10 : Array (Option Value)}
    (a10 : PySem.W.nsIn K mainGlobals "_law_turned_least" = some (some (.ref f10))) (l10 : K.lookup f10 = some ⟨oc10, od10, .func (PySem.W.fnOf "_law_turned_least" "_law_turned_least" (defArgs s_turned_least_L) (defBody s_turned_least_L) (defScope s_turned_least_L) .none kV10 dc10 pm10 an10 cd10 ct10), osl10⟩) (c10 : PySem.W.codeIn K cd10 "_law_turned_least" = true) (k10 : PySem.W.keepIn K (.ref f10) = true)
    {f11 : Addr} {oc11 kV11 dc11 pm11 cd11 ct11 : Value} {od11 an11 : Option Addr} {osl11 : Array (Option Value)}
    (a11 : PySem.W.nsIn K mainGlobals "_law_greatest" = some (some (.ref f11))) (l11 : K.lookup f11 = some ⟨oc11, od11, .func (PySem.W.fnOf "_law_greatest" "_law_greatest" (defArgs s_greatest_L) (defBody s_greatest_L) (defScope s_greatest_L) .none kV11 dc11 pm11 an11 cd11 ct11), osl11⟩) (c11 : PySem.W.codeIn K cd11 "_law_greatest" = true) (k11 : PySem.W.keepIn K (.ref f11) = true)
    {f12 : Addr} {oc12 kV12 dc12 pm12 cd12 ct12 : Value} {od12 an12 : Option Addr} {osl12 : Array (Option Value)}
    (a12 : PySem.W.nsIn K mainGlobals "is_number" = some (some (.ref f12))) (l12 : K.lookup f12 = some ⟨oc12, od12, .func (PySem.W.fnOf "is_number" "is_number" (defArgs s_is_number) (defBody s_is_number) (defScope s_is_number) .none kV12 dc12 pm12 an12 cd12 ct12), osl12⟩) (c12 : PySem.W.codeIn K cd12 "is_number" = true) (k12 : PySem.W.keepIn K (.ref f12) = true)
    {f13 : Addr} {oc13 kV13 dc13 pm13 cd13 ct13 : Value} {od13 an13 : Option Addr} {osl13 : Array (Option Value)}
    (a13 : PySem.W.nsIn K mainGlobals "is_from" = some (some (.ref f13))) (l13 : K.lookup f13 = some ⟨oc13, od13, .func (PySem.W.fnOf "is_from" "is_from" (defArgs s_is_from) (defBody s_is_from) (defScope s_is_from) .none kV13 dc13 pm13 an13 cd13 ct13), osl13⟩) (c13 : PySem.W.codeIn K cd13 "is_from" = true) (k13 : PySem.W.keepIn K (.ref f13) = true)
    {f14 : Addr} {oc14 kV14 dc14 pm14 cd14 ct14 : Value} {od14 an14 : Option Addr} {osl14 : Array (Option Value)}
    (a14 : PySem.W.nsIn K mainGlobals "tupled" = some (some (.ref f14))) (l14 : K.lookup f14 = some ⟨oc14, od14, .func (PySem.W.fnOf "tupled" "tupled" (defArgs s_tupled) (defBody s_tupled) (defScope s_tupled) .none kV14 dc14 pm14 an14 cd14 ct14), osl14⟩) (c14 : PySem.W.codeIn K cd14 "tupled" = true) (k14 : PySem.W.keepIn K (.ref f14) = true)
    {f15 : Addr} {oc15 kV15 dc15 pm15 cd15 ct15 : Value} {od15 an15 : Option Addr} {osl15 : Array (Option Value)}
    (a15 : PySem.W.nsIn K mainGlobals "_law_lists" = some (some (.ref f15))) (l15 : K.lookup f15 = some ⟨oc15, od15, .func (PySem.W.fnOf "_law_lists" "_law_lists" (defArgs s_lists_L) (defBody s_lists_L) (defScope s_lists_L) .none kV15 dc15 pm15 an15 cd15 ct15), osl15⟩) (c15 : PySem.W.codeIn K cd15 "_law_lists" = true) (k15 : PySem.W.keepIn K (.ref f15) = true)
    {f16 : Addr} {oc16 kV16 dc16 pm16 cd16 ct16 : Value} {od16 an16 : Option Addr} {osl16 : Array (Option Value)}
    (a16 : PySem.W.nsIn K mainGlobals "_law_same" = some (some (.ref f16))) (l16 : K.lookup f16 = some ⟨oc16, od16, .func (PySem.W.fnOf "_law_same" "_law_same" (defArgs s_same_L) (defBody s_same_L) (defScope s_same_L) .none kV16 dc16 pm16 an16 cd16 ct16), osl16⟩) (c16 : PySem.W.codeIn K cd16 "_law_same" = true) (k16 : PySem.W.keepIn K (.ref f16) = true)
    {f17 : Addr} {oc17 kV17 dc17 pm17 cd17 ct17 : Value} {od17 an17 : Option Addr} {osl17 : Array (Option Value)}
    (a17 : PySem.W.nsIn K mainGlobals "is_wheel" = some (some (.ref f17))) (l17 : K.lookup f17 = some ⟨oc17, od17, .func (PySem.W.fnOf "is_wheel" "is_wheel" (defArgs s_is_wheel) (defBody s_is_wheel) (defScope s_is_wheel) .none kV17 dc17 pm17 an17 cd17 ct17), osl17⟩) (c17 : PySem.W.codeIn K cd17 "is_wheel" = true) (k17 : PySem.W.keepIn K (.ref f17) = true)
    {f18 : Addr} {oc18 kV18 dc18 pm18 cd18 ct18 : Value} {od18 an18 : Option Addr} {osl18 : Array (Option Value)}
    (a18 : PySem.W.nsIn K mainGlobals "is_train" = some (some (.ref f18))) (l18 : K.lookup f18 = some ⟨oc18, od18, .func (PySem.W.fnOf "is_train" "is_train" (defArgs s_is_train) (defBody s_is_train) (defScope s_is_train) .none kV18 dc18 pm18 an18 cd18 ct18), osl18⟩) (c18 : PySem.W.codeIn K cd18 "is_train" = true) (k18 : PySem.W.keepIn K (.ref f18) = true)
    {f19 : Addr} {oc19 kV19 dc19 pm19 cd19 ct19 : Value} {od19 an19 : Option Addr} {osl19 : Array (Option Value)}
    (a19 : PySem.W.nsIn K mainGlobals "sure_train" = some (some (.ref f19))) (l19 : K.lookup f19 = some ⟨oc19, od19, .func (PySem.W.fnOf "sure_train" "sure_train" (defArgs s_sure_train) (defBody s_sure_train) (defScope s_sure_train) .none kV19 dc19 pm19 an19 cd19 ct19), osl19⟩) (c19 : PySem.W.codeIn K cd19 "sure_train" = true) (k19 : PySem.W.keepIn K (.ref f19) = true)
    {f20 : Addr} {oc20 kV20 dc20 pm20 cd20 ct20 : Value} {od20 an20 : Option Addr} {osl20 : Array (Option Value)}
    (a20 : PySem.W.nsIn K mainGlobals "is_word" = some (some (.ref f20))) (l20 : K.lookup f20 = some ⟨oc20, od20, .func (PySem.W.fnOf "is_word" "is_word" (defArgs s_is_word) (defBody s_is_word) (defScope s_is_word) .none kV20 dc20 pm20 an20 cd20 ct20), osl20⟩) (c20 : PySem.W.codeIn K cd20 "is_word" = true) (k20 : PySem.W.keepIn K (.ref f20) = true)
    {f21 : Addr} {oc21 kV21 dc21 pm21 cd21 ct21 : Value} {od21 an21 : Option Addr} {osl21 : Array (Option Value)}
    (a21 : PySem.W.nsIn K mainGlobals "is_row" = some (some (.ref f21))) (l21 : K.lookup f21 = some ⟨oc21, od21, .func (PySem.W.fnOf "is_row" "is_row" (defArgs s_is_row) (defBody s_is_row) (defScope s_is_row) .none kV21 dc21 pm21 an21 cd21 ct21), osl21⟩) (c21 : PySem.W.codeIn K cd21 "is_row" = true) (k21 : PySem.W.keepIn K (.ref f21) = true)
    {f22 : Addr} {oc22 kV22 dc22 pm22 cd22 ct22 : Value} {od22 an22 : Option Addr} {osl22 : Array (Option Value)}
    (a22 : PySem.W.nsIn K mainGlobals "sure_word" = some (some (.ref f22))) (l22 : K.lookup f22 = some ⟨oc22, od22, .func (PySem.W.fnOf "sure_word" "sure_word" (defArgs s_sure_word) (defBody s_sure_word) (defScope s_sure_word) .none kV22 dc22 pm22 an22 cd22 ct22), osl22⟩) (c22 : PySem.W.codeIn K cd22 "sure_word" = true) (k22 : PySem.W.keepIn K (.ref f22) = true)
    {f23 : Addr} {oc23 kV23 dc23 pm23 cd23 ct23 : Value} {od23 an23 : Option Addr} {osl23 : Array (Option Value)}
    (a23 : PySem.W.nsIn K mainGlobals "sure_numbers" = some (some (.ref f23))) (l23 : K.lookup f23 = some ⟨oc23, od23, .func (PySem.W.fnOf "sure_numbers" "sure_numbers" (defArgs s_sure_numbers) (defBody s_sure_numbers) (defScope s_sure_numbers) .none kV23 dc23 pm23 an23 cd23 ct23), osl23⟩) (c23 : PySem.W.codeIn K cd23 "sure_numbers" = true) (k23 : PySem.W.keepIn K (.ref f23) = true)
    {f24 : Addr} {oc24 kV24 dc24 pm24 cd24 ct24 : Value} {od24 an24 : Option Addr} {osl24 : Array (Option Value)}
    (a24 : PySem.W.nsIn K mainGlobals "sure_row" = some (some (.ref f24))) (l24 : K.lookup f24 = some ⟨oc24, od24, .func (PySem.W.fnOf "sure_row" "sure_row" (defArgs s_sure_row) (defBody s_sure_row) (defScope s_sure_row) .none kV24 dc24 pm24 an24 cd24 ct24), osl24⟩) (c24 : PySem.W.codeIn K cd24 "sure_row" = true) (k24 : PySem.W.keepIn K (.ref f24) = true)
    {f25 : Addr} {oc25 kV25 dc25 pm25 cd25 ct25 : Value} {od25 an25 : Option Addr} {osl25 : Array (Option Value)}
    (a25 : PySem.W.nsIn K mainGlobals "places_in" = some (some (.ref f25))) (l25 : K.lookup f25 = some ⟨oc25, od25, .func (PySem.W.fnOf "places_in" "places_in" (defArgs s_places_in) (defBody s_places_in) (defScope s_places_in) .none kV25 dc25 pm25 an25 cd25 ct25), osl25⟩) (c25 : PySem.W.codeIn K cd25 "places_in" = true) (k25 : PySem.W.keepIn K (.ref f25) = true)
    {f26 : Addr} {oc26 kV26 dc26 pm26 cd26 ct26 : Value} {od26 an26 : Option Addr} {osl26 : Array (Option Value)}
    (a26 : PySem.W.nsIn K mainGlobals "own_in" = some (some (.ref f26))) (l26 : K.lookup f26 = some ⟨oc26, od26, .func (PySem.W.fnOf "own_in" "own_in" (defArgs s_own_in) (defBody s_own_in) (defScope s_own_in) .none kV26 dc26 pm26 an26 cd26 ct26), osl26⟩) (c26 : PySem.W.codeIn K cd26 "own_in" = true) (k26 : PySem.W.keepIn K (.ref f26) = true)
    {f27 : Addr} {oc27 kV27 dc27 pm27 cd27 ct27 : Value} {od27 an27 : Option Addr} {osl27 : Array (Option Value)}
    (a27 : PySem.W.nsIn K mainGlobals "come_back_in" = some (some (.ref f27))) (l27 : K.lookup f27 = some ⟨oc27, od27, .func (PySem.W.fnOf "come_back_in" "come_back_in" (defArgs s_come_back_in) (defBody s_come_back_in) (defScope s_come_back_in) .none kV27 dc27 pm27 an27 cd27 ct27), osl27⟩) (c27 : PySem.W.codeIn K cd27 "come_back_in" = true) (k27 : PySem.W.keepIn K (.ref f27) = true)
    {f28 : Addr} {oc28 kV28 dc28 pm28 cd28 ct28 : Value} {od28 an28 : Option Addr} {osl28 : Array (Option Value)}
    (a28 : PySem.W.nsIn K mainGlobals "_law_back" = some (some (.ref f28))) (l28 : K.lookup f28 = some ⟨oc28, od28, .func (PySem.W.fnOf "_law_back" "_law_back" (defArgs s_back_L) (defBody s_back_L) (defScope s_back_L) .none kV28 dc28 pm28 an28 cd28 ct28), osl28⟩) (c28 : PySem.W.codeIn K cd28 "_law_back" = true) (k28 : PySem.W.keepIn K (.ref f28) = true)
    {f29 : Addr} {oc29 kV29 dc29 pm29 cd29 ct29 : Value} {od29 an29 : Option Addr} {osl29 : Array (Option Value)}
    (a29 : PySem.W.nsIn K mainGlobals "_law_orbit" = some (some (.ref f29))) (l29 : K.lookup f29 = some ⟨oc29, od29, .func (PySem.W.fnOf "_law_orbit" "_law_orbit" (defArgs s_orbit_L) (defBody s_orbit_L) (defScope s_orbit_L) .none kV29 dc29 pm29 an29 cd29 ct29), osl29⟩) (c29 : PySem.W.codeIn K cd29 "_law_orbit" = true) (k29 : PySem.W.keepIn K (.ref f29) = true)
    {f30 : Addr} {oc30 kV30 dc30 pm30 cd30 ct30 : Value} {od30 an30 : Option Addr} {osl30 : Array (Option Value)}
    (a30 : PySem.W.nsIn K mainGlobals "all_rows" = some (some (.ref f30))) (l30 : K.lookup f30 = some ⟨oc30, od30, .func (PySem.W.fnOf "all_rows" "all_rows" (defArgs s_all_rows) (defBody s_all_rows) (defScope s_all_rows) .none kV30 dc30 pm30 an30 cd30 ct30), osl30⟩) (c30 : PySem.W.codeIn K cd30 "all_rows" = true) (k30 : PySem.W.keepIn K (.ref f30) = true)
    {f31 : Addr} {oc31 kV31 dc31 pm31 cd31 ct31 : Value} {od31 an31 : Option Addr} {osl31 : Array (Option Value)}
    (a31 : PySem.W.nsIn K mainGlobals "many_rows" = some (some (.ref f31))) (l31 : K.lookup f31 = some ⟨oc31, od31, .func (PySem.W.fnOf "many_rows" "many_rows" (defArgs s_many_rows) (defBody s_many_rows) (defScope s_many_rows) .none kV31 dc31 pm31 an31 cd31 ct31), osl31⟩) (c31 : PySem.W.codeIn K cd31 "many_rows" = true) (k31 : PySem.W.keepIn K (.ref f31) = true)
    {f32 : Addr} {oc32 kV32 dc32 pm32 cd32 ct32 : Value} {od32 an32 : Option Addr} {osl32 : Array (Option Value)}
    (a32 : PySem.W.nsIn K mainGlobals "rows_in" = some (some (.ref f32))) (l32 : K.lookup f32 = some ⟨oc32, od32, .func (PySem.W.fnOf "rows_in" "rows_in" (defArgs s_rows_in) (defBody s_rows_in) (defScope s_rows_in) .none kV32 dc32 pm32 an32 cd32 ct32), osl32⟩) (c32 : PySem.W.codeIn K cd32 "rows_in" = true) (k32 : PySem.W.keepIn K (.ref f32) = true)
    {f33 : Addr} {oc33 kV33 dc33 pm33 cd33 ct33 : Value} {od33 an33 : Option Addr} {osl33 : Array (Option Value)}
    (a33 : PySem.W.nsIn K mainGlobals "rows" = some (some (.ref f33))) (l33 : K.lookup f33 = some ⟨oc33, od33, .func (PySem.W.fnOf "rows" "rows" (defArgs s_rows) (defBody s_rows) (defScope s_rows) .none kV33 dc33 pm33 an33 cd33 ct33), osl33⟩) (c33 : PySem.W.codeIn K cd33 "rows" = true) (k33 : PySem.W.keepIn K (.ref f33) = true)
    {f34 : Addr} {oc34 kV34 dc34 pm34 cd34 ct34 : Value} {od34 an34 : Option Addr} {osl34 : Array (Option Value)}
    (a34 : PySem.W.nsIn K mainGlobals "led_in_row" = some (some (.ref f34))) (l34 : K.lookup f34 = some ⟨oc34, od34, .func (PySem.W.fnOf "led_in_row" "led_in_row" (defArgs s_led_in_row) (defBody s_led_in_row) (defScope s_led_in_row) .none kV34 dc34 pm34 an34 cd34 ct34), osl34⟩) (c34 : PySem.W.codeIn K cd34 "led_in_row" = true) (k34 : PySem.W.keepIn K (.ref f34) = true)
    {f35 : Addr} {oc35 kV35 dc35 pm35 cd35 ct35 : Value} {od35 an35 : Option Addr} {osl35 : Array (Option Value)}
    (a35 : PySem.W.nsIn K mainGlobals "led_train" = some (some (.ref f35))) (l35 : K.lookup f35 = some ⟨oc35, od35, .func (PySem.W.fnOf "led_train" "led_train" (defArgs s_led_train) (defBody s_led_train) (defScope s_led_train) .none kV35 dc35 pm35 an35 cd35 ct35), osl35⟩) (c35 : PySem.W.codeIn K cd35 "led_train" = true) (k35 : PySem.W.keepIn K (.ref f35) = true)
    {f36 : Addr} {oc36 kV36 dc36 pm36 cd36 ct36 : Value} {od36 an36 : Option Addr} {osl36 : Array (Option Value)}
    (a36 : PySem.W.nsIn K mainGlobals "row_of" = some (some (.ref f36))) (l36 : K.lookup f36 = some ⟨oc36, od36, .func (PySem.W.fnOf "row_of" "row_of" (defArgs s_row_of) (defBody s_row_of) (defScope s_row_of) .none kV36 dc36 pm36 an36 cd36 ct36), osl36⟩) (c36 : PySem.W.codeIn K cd36 "row_of" = true) (k36 : PySem.W.keepIn K (.ref f36) = true)
    {f37 : Addr} {oc37 kV37 dc37 pm37 cd37 ct37 : Value} {od37 an37 : Option Addr} {osl37 : Array (Option Value)}
    (a37 : PySem.W.nsIn K mainGlobals "_law_led_disks" = some (some (.ref f37))) (l37 : K.lookup f37 = some ⟨oc37, od37, .func (PySem.W.fnOf "_law_led_disks" "_law_led_disks" (defArgs s_led_disks_L) (defBody s_led_disks_L) (defScope s_led_disks_L) .none kV37 dc37 pm37 an37 cd37 ct37), osl37⟩) (c37 : PySem.W.codeIn K cd37 "_law_led_disks" = true) (k37 : PySem.W.keepIn K (.ref f37) = true)
    {f38 : Addr} {oc38 kV38 dc38 pm38 cd38 ct38 : Value} {od38 an38 : Option Addr} {osl38 : Array (Option Value)}
    (a38 : PySem.W.nsIn K mainGlobals "_law_shared" = some (some (.ref f38))) (l38 : K.lookup f38 = some ⟨oc38, od38, .func (PySem.W.fnOf "_law_shared" "_law_shared" (defArgs s_shared_L) (defBody s_shared_L) (defScope s_shared_L) .none kV38 dc38 pm38 an38 cd38 ct38), osl38⟩) (c38 : PySem.W.codeIn K cd38 "_law_shared" = true) (k38 : PySem.W.keepIn K (.ref f38) = true)
    {f39 : Addr} {oc39 kV39 dc39 pm39 cd39 ct39 : Value} {od39 an39 : Option Addr} {osl39 : Array (Option Value)}
    (a39 : PySem.W.nsIn K mainGlobals "_law_many" = some (some (.ref f39))) (l39 : K.lookup f39 = some ⟨oc39, od39, .func (PySem.W.fnOf "_law_many" "_law_many" (defArgs s_many_L) (defBody s_many_L) (defScope s_many_L) .none kV39 dc39 pm39 an39 cd39 ct39), osl39⟩) (c39 : PySem.W.codeIn K cd39 "_law_many" = true) (k39 : PySem.W.keepIn K (.ref f39) = true)
    {f40 : Addr} {oc40 kV40 dc40 pm40 cd40 ct40 : Value} {od40 an40 : Option Addr} {osl40 : Array (Option Value)}
    (a40 : PySem.W.nsIn K mainGlobals "_law_count" = some (some (.ref f40))) (l40 : K.lookup f40 = some ⟨oc40, od40, .func (PySem.W.fnOf "_law_count" "_law_count" (defArgs s_count_L) (defBody s_count_L) (defScope s_count_L) .none kV40 dc40 pm40 an40 cd40 ct40), osl40⟩) (c40 : PySem.W.codeIn K cd40 "_law_count" = true) (k40 : PySem.W.keepIn K (.ref f40) = true)
    {f41 : Addr} {oc41 kV41 dc41 pm41 cd41 ct41 : Value} {od41 an41 : Option Addr} {osl41 : Array (Option Value)}
    (a41 : PySem.W.nsIn K mainGlobals "_law_rows_of" = some (some (.ref f41))) (l41 : K.lookup f41 = some ⟨oc41, od41, .func (PySem.W.fnOf "_law_rows_of" "_law_rows_of" (defArgs s_rows_of_L) (defBody s_rows_of_L) (defScope s_rows_of_L) .none kV41 dc41 pm41 an41 cd41 ct41), osl41⟩) (c41 : PySem.W.codeIn K cd41 "_law_rows_of" = true) (k41 : PySem.W.keepIn K (.ref f41) = true)
    {f42 : Addr} {oc42 kV42 dc42 pm42 cd42 ct42 : Value} {od42 an42 : Option Addr} {osl42 : Array (Option Value)}
    (a42 : PySem.W.nsIn K mainGlobals "_law_is_greatest" = some (some (.ref f42))) (l42 : K.lookup f42 = some ⟨oc42, od42, .func (PySem.W.fnOf "_law_is_greatest" "_law_is_greatest" (defArgs s_is_greatest_L) (defBody s_is_greatest_L) (defScope s_is_greatest_L) .none kV42 dc42 pm42 an42 cd42 ct42), osl42⟩) (c42 : PySem.W.codeIn K cd42 "_law_is_greatest" = true) (k42 : PySem.W.keepIn K (.ref f42) = true)
    {f43 : Addr} {oc43 kV43 dc43 pm43 cd43 ct43 : Value} {od43 an43 : Option Addr} {osl43 : Array (Option Value)}
    (a43 : PySem.W.nsIn K mainGlobals "_law_row_by_own" = some (some (.ref f43))) (l43 : K.lookup f43 = some ⟨oc43, od43, .func (PySem.W.fnOf "_law_row_by_own" "_law_row_by_own" (defArgs s_row_by_own_L) (defBody s_row_by_own_L) (defScope s_row_by_own_L) .none kV43 dc43 pm43 an43 cd43 ct43), osl43⟩) (c43 : PySem.W.codeIn K cd43 "_law_row_by_own" = true) (k43 : PySem.W.keepIn K (.ref f43) = true)
    {f44 : Addr} {oc44 kV44 dc44 pm44 cd44 ct44 : Value} {od44 an44 : Option Addr} {osl44 : Array (Option Value)}
    (a44 : PySem.W.nsIn K mainGlobals "_law_box" = some (some (.ref f44))) (l44 : K.lookup f44 = some ⟨oc44, od44, .func (PySem.W.fnOf "_law_box" "_law_box" (defArgs s_box_L) (defBody s_box_L) (defScope s_box_L) .none kV44 dc44 pm44 an44 cd44 ct44), osl44⟩) (c44 : PySem.W.codeIn K cd44 "_law_box" = true) (k44 : PySem.W.keepIn K (.ref f44) = true)
    {f45 : Addr} {oc45 kV45 dc45 pm45 cd45 ct45 : Value} {od45 an45 : Option Addr} {osl45 : Array (Option Value)}
    (a45 : PySem.W.nsIn K mainGlobals "_law_take" = some (some (.ref f45))) (l45 : K.lookup f45 = some ⟨oc45, od45, .func (PySem.W.fnOf "_law_take" "_law_take" (defArgs s_take_L) (defBody s_take_L) (defScope s_take_L) .none kV45 dc45 pm45 an45 cd45 ct45), osl45⟩) (c45 : PySem.W.codeIn K cd45 "_law_take" = true) (k45 : PySem.W.keepIn K (.ref f45) = true)
    {f46 : Addr} {oc46 kV46 dc46 pm46 cd46 ct46 : Value} {od46 an46 : Option Addr} {osl46 : Array (Option Value)}
    (a46 : PySem.W.nsIn K mainGlobals "_law_of" = some (some (.ref f46))) (l46 : K.lookup f46 = some ⟨oc46, od46, .func (PySem.W.fnOf "_law_of" "_law_of" (defArgs s_of_L) (defBody s_of_L) (defScope s_of_L) .none kV46 dc46 pm46 an46 cd46 ct46), osl46⟩) (c46 : PySem.W.codeIn K cd46 "_law_of" = true) (k46 : PySem.W.keepIn K (.ref f46) = true)
    {f47 : Addr} {oc47 kV47 dc47 pm47 cd47 ct47 : Value} {od47 an47 : Option Addr} {osl47 : Array (Option Value)}
    (a47 : PySem.W.nsIn K mainGlobals "_law_cells" = some (some (.ref f47))) (l47 : K.lookup f47 = some ⟨oc47, od47, .func (PySem.W.fnOf "_law_cells" "_law_cells" (defArgs s_cells_L) (defBody s_cells_L) (defScope s_cells_L) .none kV47 dc47 pm47 an47 cd47 ct47), osl47⟩) (c47 : PySem.W.codeIn K cd47 "_law_cells" = true) (k47 : PySem.W.keepIn K (.ref f47) = true)
    {f48 : Addr} {oc48 kV48 dc48 pm48 cd48 ct48 : Value} {od48 an48 : Option Addr} {osl48 : Array (Option Value)}
    (a48 : PySem.W.nsIn K mainGlobals "_law_disk" = some (some (.ref f48))) (l48 : K.lookup f48 = some ⟨oc48, od48, .func (PySem.W.fnOf "_law_disk" "_law_disk" (defArgs s_disk_L) (defBody s_disk_L) (defScope s_disk_L) .none kV48 dc48 pm48 an48 cd48 ct48), osl48⟩) (c48 : PySem.W.codeIn K cd48 "_law_disk" = true) (k48 : PySem.W.keepIn K (.ref f48) = true)
    {f49 : Addr} {oc49 kV49 dc49 pm49 cd49 ct49 : Value} {od49 an49 : Option Addr} {osl49 : Array (Option Value)}
    (a49 : PySem.W.nsIn K mainGlobals "_law_disks" = some (some (.ref f49))) (l49 : K.lookup f49 = some ⟨oc49, od49, .func (PySem.W.fnOf "_law_disks" "_law_disks" (defArgs s_disks_L) (defBody s_disks_L) (defScope s_disks_L) .none kV49 dc49 pm49 an49 cd49 ct49), osl49⟩) (c49 : PySem.W.codeIn K cd49 "_law_disks" = true) (k49 : PySem.W.keepIn K (.ref f49) = true)
    {f50 : Addr} {oc50 kV50 dc50 pm50 cd50 ct50 : Value} {od50 an50 : Option Addr} {osl50 : Array (Option Value)}
    (a50 : PySem.W.nsIn K mainGlobals "_law_by_hand_right" = some (some (.ref f50))) (l50 : K.lookup f50 = some ⟨oc50, od50, .func (PySem.W.fnOf "_law_by_hand_right" "_law_by_hand_right" (defArgs s_by_hand_right_L) (defBody s_by_hand_right_L) (defScope s_by_hand_right_L) .none kV50 dc50 pm50 an50 cd50 ct50), osl50⟩) (c50 : PySem.W.codeIn K cd50 "_law_by_hand_right" = true) (k50 : PySem.W.keepIn K (.ref f50) = true)
    {f51 : Addr} {oc51 kV51 dc51 pm51 cd51 ct51 : Value} {od51 an51 : Option Addr} {osl51 : Array (Option Value)}
    (a51 : PySem.W.nsIn K mainGlobals "law" = some (some (.ref f51))) (l51 : K.lookup f51 = some ⟨oc51, od51, .func (PySem.W.fnOf "law" "law" (defArgs s_law) (defBody s_law) (defScope s_law) .none kV51 dc51 pm51 an51 cd51 ct51), osl51⟩) (c51 : PySem.W.codeIn K cd51 "law" = true) (k51 : PySem.W.keepIn K (.ref f51) = true)
    (z0 : PySem.W.nsIn K mainGlobals "len" = some none)
    (z1 : PySem.W.nsIn K mainGlobals "tuple" = some none)
    (z2 : PySem.W.nsIn K mainGlobals "list" = some none)
    (z3 : PySem.W.nsIn K mainGlobals "range" = some none)
    (z4 : PySem.W.nsIn K mainGlobals "sum" = some none)
    (z5 : PySem.W.nsIn K mainGlobals "max" = some none)
    (z6 : PySem.W.nsIn K mainGlobals "min" = some none)
    (z7 : PySem.W.nsIn K mainGlobals "all" = some none)
    (z8 : PySem.W.nsIn K mainGlobals "sorted" = some none)
    (z9 : PySem.W.nsIn K mainGlobals "isinstance" = some none)
    (z10 : PySem.W.nsIn K mainGlobals "int" = some none)
    (z11 : PySem.W.nsIn K mainGlobals "bool" = some none)
    (z12 : PySem.W.nsIn K mainGlobals "str" = some none)
    (z13 : PySem.W.nsIn K mainGlobals "abs" = some none)
    (z14 : PySem.W.nsIn K mainGlobals "divmod" = some none)
    (z15 : PySem.W.nsIn K mainGlobals "enumerate" = some none)
    (z16 : PySem.W.nsIn K mainGlobals "zip" = some none)
    (z17 : PySem.W.nsIn K mainGlobals "set" = some none)
    (zg : PySem.W.nsIn K mainGlobals "gcd" = some (some (.builtin "math.gcd"))) (zf : PySem.W.nsIn K mainGlobals "factorial" = some (some (.builtin "math.factorial"))) {tMANY : Tok} (zm : PySem.W.nsIn K mainGlobals "MANY" = some (some (.int 600 tMANY))) :
    ∃ fd : FuncData, (∀ (s : Shared) (v : Value), BindsTo s fd ⟨[v], []⟩ [("_law_script", v)]) ∧ ∀ base : Heap, K.In base → base.Ns mainGlobals mg → FnOk l.prog w K mg base CX0 13 fa fd ["_law_script"] (sp_law K) := by
  have e := hfa.symm.trans (PySem.W.mg_of KX G a51)
  cases e
  have FL := fun_mk (st := s_law) l51 c51 k51
  have Bt : Bi mg := ⟨PySem.W.mg_none_of KX G z0, PySem.W.mg_none_of KX G z1, PySem.W.mg_none_of KX G z2, PySem.W.mg_none_of KX G z3, PySem.W.mg_none_of KX G z4, PySem.W.mg_none_of KX G z5, PySem.W.mg_none_of KX G z6, PySem.W.mg_none_of KX G z7, PySem.W.mg_none_of KX G z8, PySem.W.mg_none_of KX G z9, PySem.W.mg_none_of KX G z10, PySem.W.mg_none_of KX G z11, PySem.W.mg_none_of KX G z12, PySem.W.mg_none_of KX G z13, PySem.W.mg_none_of KX G z14, PySem.W.mg_none_of KX G z15, PySem.W.mg_none_of KX G z16, PySem.W.mg_none_of KX G z17, PySem.W.mg_of KX G zg, PySem.W.mg_of KX G zf⟩
  have hMANY := PySem.W.mg_of KX G zm
  have T_led_in := tx_led_in KX G a0 l0 c0 k0
  have T_name_in := tx_name_in KX G a1 l1 c1 k1
  have T_behind_in := tx_behind_in KX G a2 l2 c2 k2
  have T_greatest_in := tx_greatest_in KX G a3 l3 c3 k3
  have T_turned_in := tx_turned_in KX G a4 l4 c4 k4
  have T_least_in_turn := tx_least_in_turn KX G a5 l5 c5 k5
  have T_led_L := tx_led_L KX G a6 l6 c6 k6
  have T_told_on_L := tx_told_on_L KX G a7 l7 c7 k7
  have T_name_ahead_L := tx_name_ahead_L KX G a8 l8 c8 k8
  have T_shift_L := tx_shift_L KX G a9 l9 c9 k9
  have T_turned_least_L := tx_turned_least_L KX G a10 l10 c10 k10
  have T_greatest_L := tx_greatest_L KX G a11 l11 c11 k11
  have T_is_number := tx_is_number KX G a12 l12 c12 k12
  have T_is_from := tx_is_from KX G a13 l13 c13 k13
  have T_tupled := tx_tupled KX G a14 l14 c14 k14
  have T_lists_L := tx_lists_L KX G a15 l15 c15 k15
  have T_same_L := tx_same_L KX G a16 l16 c16 k16
  have T_is_wheel := tx_is_wheel KX G a17 l17 c17 k17
  have T_is_train := tx_is_train KX G a18 l18 c18 k18
  have T_sure_train := tx_sure_train KX G a19 l19 c19 k19
  have T_is_word := tx_is_word KX G a20 l20 c20 k20
  have T_is_row := tx_is_row KX G a21 l21 c21 k21
  have T_sure_word := tx_sure_word KX G a22 l22 c22 k22
  have T_sure_numbers := tx_sure_numbers KX G a23 l23 c23 k23
  have T_sure_row := tx_sure_row KX G a24 l24 c24 k24
  have T_places_in := tx_places_in KX G a25 l25 c25 k25
  have T_own_in := tx_own_in KX G a26 l26 c26 k26
  have T_come_back_in := tx_come_back_in KX G a27 l27 c27 k27
  have T_back_L := tx_back_L KX G a28 l28 c28 k28
  have T_orbit_L := tx_orbit_L KX G a29 l29 c29 k29
  have T_all_rows := tx_all_rows KX G a30 l30 c30 k30
  have T_many_rows := tx_many_rows KX G a31 l31 c31 k31
  have T_rows_in := tx_rows_in KX G a32 l32 c32 k32
  have T_rows := tx_rows KX G a33 l33 c33 k33
  have T_led_in_row := tx_led_in_row KX G a34 l34 c34 k34
  have T_led_train := tx_led_train KX G a35 l35 c35 k35
  have T_row_of := tx_row_of KX G a36 l36 c36 k36
  have T_led_disks_L := tx_led_disks_L KX G a37 l37 c37 k37
  have T_shared_L := tx_shared_L KX G a38 l38 c38 k38
  have T_many_L := tx_many_L KX G a39 l39 c39 k39
  have T_count_L := tx_count_L KX G a40 l40 c40 k40
  have T_rows_of_L := tx_rows_of_L KX G a41 l41 c41 k41
  have T_is_greatest_L := tx_is_greatest_L KX G a42 l42 c42 k42
  have T_row_by_own_L := tx_row_by_own_L KX G a43 l43 c43 k43
  have T_box_L := tx_box_L KX G a44 l44 c44 k44
  have T_take_L := tx_take_L KX G a45 l45 c45 k45
  have T_of_L := tx_of_L KX G a46 l46 c46 k46
  have T_cells_L := tx_cells_L KX G a47 l47 c47 k47
  have T_disk_L := tx_disk_L KX G a48 l48 c48 k48
  have T_disks_L := tx_disks_L KX G a49 l49 c49 k49
  have T_by_hand_right_L := tx_by_hand_right_L KX G a50 l50 c50 k50
  refine ⟨PySem.W.fnOf "law" "law" (defArgs s_law) (defBody s_law) (defScope s_law) .none kV51 dc51 pm51 an51 cd51 ct51, fun s v => .of_eq rfl, fun base _ _ => ?_⟩
  have F_led_in := ok_led_in (P := l.prog) (w := w) (base := base) T_led_in Bt 
  have F_name_in := ok_name_in (P := l.prog) (w := w) (base := base) T_name_in Bt 
  have F_behind_in := ok_behind_in (P := l.prog) (w := w) (base := base) T_behind_in Bt 
  have F_greatest_in := ok_greatest_in (P := l.prog) (w := w) (base := base) T_greatest_in Bt F_name_in F_behind_in
  have F_turned_in := ok_turned_in (P := l.prog) (w := w) (base := base) T_turned_in Bt 
  have F_least_in_turn := ok_least_in_turn (P := l.prog) (w := w) (base := base) T_least_in_turn Bt F_turned_in
  have F_led_L := ok_led_L (P := l.prog) (w := w) (base := base) T_led_L Bt 
  have F_told_on_L := ok_told_on_L (P := l.prog) (w := w) (base := base) T_told_on_L Bt 
  have F_name_ahead_L := ok_name_ahead_L (P := l.prog) (w := w) (base := base) T_name_ahead_L Bt 
  have F_shift_L := ok_shift_L (P := l.prog) (w := w) (base := base) T_shift_L Bt 
  have F_turned_least_L := ok_turned_least_L (P := l.prog) (w := w) (base := base) T_turned_least_L Bt 
  have F_greatest_L := ok_greatest_L (P := l.prog) (w := w) (base := base) T_greatest_L Bt F_told_on_L F_name_ahead_L
  have F_is_number := ok_is_number (P := l.prog) (w := w) (base := base) T_is_number Bt 
  have F_is_from := ok_is_from (P := l.prog) (w := w) (base := base) T_is_from Bt F_is_number
  have F_tupled : Fd l.prog w K mg base "tupled" 1 8 sp_tupled := all_tupled T_tupled Bt 7
  have F_lists_L : Fd l.prog w K mg base "_law_lists" 1 8 sp_lists_L := all_lists_L T_lists_L Bt 7
  have F_same_L : Fd l.prog w K mg base "_law_same" 2 8 sp_same_L := all_same_L T_same_L Bt 7
  have F_is_wheel := ok_is_wheel (P := l.prog) (w := w) (base := base) T_is_wheel Bt F_is_number
  have F_is_train := ok_is_train (P := l.prog) (w := w) (base := base) T_is_train Bt F_is_wheel
  have F_sure_train := ok_sure_train (P := l.prog) (w := w) (base := base) T_sure_train Bt F_tupled F_is_train
  have F_is_word := ok_is_word (P := l.prog) (w := w) (base := base) T_is_word Bt F_is_from
  have F_is_row := ok_is_row (P := l.prog) (w := w) (base := base) T_is_row Bt F_is_word
  have F_sure_word := ok_sure_word (P := l.prog) (w := w) (base := base) T_sure_word Bt F_tupled F_is_word
  have F_sure_numbers := ok_sure_numbers (P := l.prog) (w := w) (base := base) T_sure_numbers Bt F_tupled F_is_number F_is_from
  have F_sure_row := ok_sure_row (P := l.prog) (w := w) (base := base) T_sure_row Bt F_sure_word F_sure_numbers
  have F_places_in := ok_places_in (P := l.prog) (w := w) (base := base) T_places_in Bt F_led_in
  have F_own_in := ok_own_in (P := l.prog) (w := w) (base := base) T_own_in Bt 
  have F_come_back_in := ok_come_back_in (P := l.prog) (w := w) (base := base) T_come_back_in Bt F_own_in F_led_in
  have F_back_L := ok_back_L (P := l.prog) (w := w) (base := base) T_back_L Bt F_led_L
  have F_orbit_L := ok_orbit_L (P := l.prog) (w := w) (base := base) T_orbit_L Bt F_back_L F_led_L
  have F_all_rows := ok_all_rows (P := l.prog) (w := w) (base := base) T_all_rows Bt 
  obtain ⟨F_many_rows, FK_many_rows⟩ := ok_many_rows (P := l.prog) (w := w) (base := base) T_many_rows Bt F_sure_numbers F_all_rows
  have F_rows_in := ok_rows_in (P := l.prog) (w := w) (base := base) T_rows_in Bt F_all_rows F_least_in_turn hMANY
  obtain ⟨F_rows, FK_rows⟩ := ok_rows (P := l.prog) (w := w) (base := base) T_rows Bt F_rows_in F_sure_numbers
  have F_led_in_row := ok_led_in_row (P := l.prog) (w := w) (base := base) T_led_in_row Bt F_greatest_in
  obtain ⟨F_led_train, FK_led_train⟩ := ok_led_train (P := l.prog) (w := w) (base := base) T_led_train Bt F_sure_row F_led_in_row
  obtain ⟨F_row_of, FK_row_of⟩ := ok_row_of (P := l.prog) (w := w) (base := base) T_row_of Bt F_sure_train F_places_in F_come_back_in F_least_in_turn
  have F_led_disks_L := ok_led_disks_L (P := l.prog) (w := w) (base := base) T_led_disks_L Bt F_greatest_L
  have F_shared_L := ok_shared_L (P := l.prog) (w := w) (base := base) T_shared_L Bt 
  have F_many_L := ok_many_L (P := l.prog) (w := w) (base := base) T_many_L Bt 
  have F_count_L := ok_count_L (P := l.prog) (w := w) (base := base) T_count_L Bt F_shared_L F_many_L
  have F_rows_of_L := ok_rows_of_L (P := l.prog) (w := w) (base := base) T_rows_of_L Bt 
  have F_is_greatest_L := ok_is_greatest_L (P := l.prog) (w := w) (base := base) T_is_greatest_L Bt F_led_L F_told_on_L
  have F_row_by_own_L := ok_row_by_own_L (P := l.prog) (w := w) (base := base) T_row_by_own_L Bt F_orbit_L F_turned_least_L
  have F_box_L := ok_box_L (P := l.prog) (w := w) (base := base) T_box_L Bt 
  have F_take_L := ok_take_L (P := l.prog) (w := w) (base := base) T_take_L Bt 
  have F_of_L := ok_of_L (P := l.prog) (w := w) (base := base) T_of_L Bt F_take_L
  have F_cells_L := ok_cells_L (P := l.prog) (w := w) (base := base) T_cells_L Bt 
  have F_disk_L := ok_disk_L (P := l.prog) (w := w) (base := base) T_disk_L Bt F_take_L F_shift_L
  have F_disks_L := ok_disks_L (P := l.prog) (w := w) (base := base) T_disks_L Bt F_disk_L
  have F_by_hand_right_L := ok_by_hand_right_L (P := l.prog) (w := w) (base := base) T_by_hand_right_L Bt F_rows FK_rows F_many_rows FK_many_rows F_led_train FK_led_train F_row_of FK_row_of F_lists_L F_is_row F_same_L
  exact ok_law FL Bt F_by_hand_right_L F_box_L F_cells_L F_of_L F_rows_of_L F_same_L F_rows F_many_rows F_count_L F_take_L F_led_train F_led_disks_L F_is_greatest_L F_disks_L F_row_by_own_L F_row_of F_lists_L
theorem walk {l : PySem.W.OpenLaw} {q : Program} {loose : List Str} {XP : (Str → Option Value) → Heap → Prop} {YP : World → Heap → Prop} {d : DefRec} {K : Params → PySem.W.Frag} (hn : l.most = some 63) (hdf : d.params.defaults = [])
    (hY : ∀ (w : World) (h : Heap), YP w h → (K w.params).In h)
    (F : ∀ (w : World) (mg : Str → Option Value) (fa : Addr) (h : Heap), (K w.params).In h → h.Ns mainGlobals mg → mg d.name = some (.ref fa) →
      ∃ fd : FuncData, (∀ (s : Shared) (u : Value), BindsTo s fd ⟨[u], []⟩ [("_law_script", u)]) ∧ ∀ base : Heap, (K w.params).In base → base.Ns mainGlobals mg → FnOk l.prog w (K w.params) mg base CX0 13 fa fd ["_law_script"] (sp_law (K w.params))) :
    PySem.W.WalkO q loose XP YP l.row.toRowW d [] (fun f vs => PySem.call f vs) :=
  L2.walk_of (n := 63) (k := 13) (x := "_law_script") (CX := fun _ => CX0) (sp := fun w => sp_law (K w.params)) hn (by decide) hdf ⟨rfl, by decide, by decide⟩ hY F (fun _ _ a ns hl _ hS => ⟨_, rfl, a, ns, rfl, hS, hl, fun _ => rfl⟩) fun _ _ _ _ _ z => z
end Rw

open PySem PySem.W PyProof.Rows
set_option maxRecDepth 100000 in
set_option maxHeartbeats 0 in
theorem PySem.Challenge.cw_bothwheels_k39_whole_rows_each_once_up_t_holds : PySem.Challenge.rw_bothwheels_k39_whole_rows_each_once_up_t.Holds := by
  w_on; o_law; k_head; (case hw => w_witness2)
  k_fill
  refine Rw.walk (l := PySem.Challenge.rw_bothwheels_k39_whole_rows_each_once_up_t) rfl rfl (fun w h Y => PySem.W.kIn_of Y) ?F
  case F =>
    intro w mg fa h KX G hmg
    refine' Rw.all_mk KX G hmg ?a0 ?l0 ?c0 ?k0 ?a1 ?l1 ?c1 ?k1 ?a2 ?l2 ?c2 ?k2 ?a3 ?l3 ?c3 ?k3 ?a4 ?l4 ?c4 ?k4 ?a5 ?l5 ?c5 ?k5 ?a6 ?l6 ?c6 ?k6 ?a7 ?l7 ?c7 ?k7 ?a8 ?l8 ?c8 ?k8 ?a9 ?l9 ?c9 ?k9 ?a10 ?l10 ?c10 ?k10 ?a11 ?l11 ?c11 ?k11 ?a12 ?l12 ?c12 ?k12 ?a13 ?l13 ?c13 ?k13 ?a14 ?l14 ?c14 ?k14 ?a15 ?l15 ?c15 ?k15 ?a16 ?l16 ?c16 ?k16 ?a17 ?l17 ?c17 ?k17 ?a18 ?l18 ?c18 ?k18 ?a19 ?l19 ?c19 ?k19 ?a20 ?l20 ?c20 ?k20 ?a21 ?l21 ?c21 ?k21 ?a22 ?l22 ?c22 ?k22 ?a23 ?l23 ?c23 ?k23 ?a24 ?l24 ?c24 ?k24 ?a25 ?l25 ?c25 ?k25 ?a26 ?l26 ?c26 ?k26 ?a27 ?l27 ?c27 ?k27 ?a28 ?l28 ?c28 ?k28 ?a29 ?l29 ?c29 ?k29 ?a30 ?l30 ?c30 ?k30 ?a31 ?l31 ?c31 ?k31 ?a32 ?l32 ?c32 ?k32 ?a33 ?l33 ?c33 ?k33 ?a34 ?l34 ?c34 ?k34 ?a35 ?l35 ?c35 ?k35 ?a36 ?l36 ?c36 ?k36 ?a37 ?l37 ?c37 ?k37 ?a38 ?l38 ?c38 ?k38 ?a39 ?l39 ?c39 ?k39 ?a40 ?l40 ?c40 ?k40 ?a41 ?l41 ?c41 ?k41 ?a42 ?l42 ?c42 ?k42 ?a43 ?l43 ?c43 ?k43 ?a44 ?l44 ?c44 ?k44 ?a45 ?l45 ?c45 ?k45 ?a46 ?l46 ?c46 ?k46 ?a47 ?l47 ?c47 ?k47 ?a48 ?l48 ?c48 ?k48 ?a49 ?l49 ?c49 ?k49 ?a50 ?l50 ?c50 ?k50 ?a51 ?l51 ?c51 ?k51 ?z0 ?z1 ?z2 ?z3 ?z4 ?z5 ?z6 ?z7 ?z8 ?z9 ?z10 ?z11 ?z12 ?z13 ?z14 ?z15 ?z16 ?z17 ?zg ?zf ?zm
    (case a0 => k_is)
    (case l0 => k_is)
    (case c0 => k_is)
    (case k0 => k_is)
    (case a1 => k_is)
    (case l1 => k_is)
    (case c1 => k_is)
    (case k1 => k_is)
    (case a2 => k_is)
    (case l2 => k_is)
    (case c2 => k_is)
    (case k2 => k_is)
    (case a3 => k_is)
    (case l3 => k_is)
    (case c3 => k_is)
    (case k3 => k_is)
    (case a4 => k_is)
    (case l4 => k_is)
    (case c4 => k_is)
    (case k4 => k_is)
    (case a5 => k_is)
    (case l5 => k_is)
    (case c5 => k_is)
    (case k5 => k_is)
    (case a6 => k_is)
    (case l6 => k_is)
    (case c6 => k_is)
    (case k6 => k_is)
    (case a7 => k_is)
    (case l7 => k_is)
    (case c7 => k_is)
    (case k7 => k_is)
    (case a8 => k_is)
    (case l8 => k_is)
    (case c8 => k_is)
    (case k8 => k_is)
    (case a9 => k_is)
    (case l9 => k_is)
    (case c9 => k_is)
    (case k9 => k_is)
    (case a10 => k_is)
    (case l10 => k_is)
    (case c10 => k_is)
    (case k10 => k_is)
    (case a11 => k_is)
    (case l11 => k_is)
    (case c11 => k_is)
    (case k11 => k_is)
    (case a12 => k_is)
    (case l12 => k_is)
    (case c12 => k_is)
    (case k12 => k_is)
    (case a13 => k_is)
    (case l13 => k_is)
    (case c13 => k_is)
    (case k13 => k_is)
    (case a14 => k_is)
    (case l14 => k_is)
    (case c14 => k_is)
    (case k14 => k_is)
    (case a15 => k_is)
    (case l15 => k_is)
    (case c15 => k_is)
    (case k15 => k_is)
    (case a16 => k_is)
    (case l16 => k_is)
    (case c16 => k_is)
    (case k16 => k_is)
    (case a17 => k_is)
    (case l17 => k_is)
    (case c17 => k_is)
    (case k17 => k_is)
    (case a18 => k_is)
    (case l18 => k_is)
    (case c18 => k_is)
    (case k18 => k_is)
    (case a19 => k_is)
    (case l19 => k_is)
    (case c19 => k_is)
    (case k19 => k_is)
    (case a20 => k_is)
    (case l20 => k_is)
    (case c20 => k_is)
    (case k20 => k_is)
    (case a21 => k_is)
    (case l21 => k_is)
    (case c21 => k_is)
    (case k21 => k_is)
    (case a22 => k_is)
    (case l22 => k_is)
    (case c22 => k_is)
    (case k22 => k_is)
    (case a23 => k_is)
    (case l23 => k_is)
    (case c23 => k_is)
    (case k23 => k_is)
    (case a24 => k_is)
    (case l24 => k_is)
    (case c24 => k_is)
    (case k24 => k_is)
    (case a25 => k_is)
    (case l25 => k_is)
    (case c25 => k_is)
    (case k25 => k_is)
    (case a26 => k_is)
    (case l26 => k_is)
    (case c26 => k_is)
    (case k26 => k_is)
    (case a27 => k_is)
    (case l27 => k_is)
    (case c27 => k_is)
    (case k27 => k_is)
    (case a28 => k_is)
    (case l28 => k_is)
    (case c28 => k_is)
    (case k28 => k_is)
    (case a29 => k_is)
    (case l29 => k_is)
    (case c29 => k_is)
    (case k29 => k_is)
    (case a30 => k_is)
    (case l30 => k_is)
    (case c30 => k_is)
    (case k30 => k_is)
    (case a31 => k_is)
    (case l31 => k_is)
    (case c31 => k_is)
    (case k31 => k_is)
    (case a32 => k_is)
    (case l32 => k_is)
    (case c32 => k_is)
    (case k32 => k_is)
    (case a33 => k_is)
    (case l33 => k_is)
    (case c33 => k_is)
    (case k33 => k_is)
    (case a34 => k_is)
    (case l34 => k_is)
    (case c34 => k_is)
    (case k34 => k_is)
    (case a35 => k_is)
    (case l35 => k_is)
    (case c35 => k_is)
    (case k35 => k_is)
    (case a36 => k_is)
    (case l36 => k_is)
    (case c36 => k_is)
    (case k36 => k_is)
    (case a37 => k_is)
    (case l37 => k_is)
    (case c37 => k_is)
    (case k37 => k_is)
    (case a38 => k_is)
    (case l38 => k_is)
    (case c38 => k_is)
    (case k38 => k_is)
    (case a39 => k_is)
    (case l39 => k_is)
    (case c39 => k_is)
    (case k39 => k_is)
    (case a40 => k_is)
    (case l40 => k_is)
    (case c40 => k_is)
    (case k40 => k_is)
    (case a41 => k_is)
    (case l41 => k_is)
    (case c41 => k_is)
    (case k41 => k_is)
    (case a42 => k_is)
    (case l42 => k_is)
    (case c42 => k_is)
    (case k42 => k_is)
    (case a43 => k_is)
    (case l43 => k_is)
    (case c43 => k_is)
    (case k43 => k_is)
    (case a44 => k_is)
    (case l44 => k_is)
    (case c44 => k_is)
    (case k44 => k_is)
    (case a45 => k_is)
    (case l45 => k_is)
    (case c45 => k_is)
    (case k45 => k_is)
    (case a46 => k_is)
    (case l46 => k_is)
    (case c46 => k_is)
    (case k46 => k_is)
    (case a47 => k_is)
    (case l47 => k_is)
    (case c47 => k_is)
    (case k47 => k_is)
    (case a48 => k_is)
    (case l48 => k_is)
    (case c48 => k_is)
    (case k48 => k_is)
    (case a49 => k_is)
    (case l49 => k_is)
    (case c49 => k_is)
    (case k49 => k_is)
    (case a50 => k_is)
    (case l50 => k_is)
    (case c50 => k_is)
    (case k50 => k_is)
    (case a51 => k_is)
    (case l51 => k_is)
    (case c51 => k_is)
    (case k51 => k_is)
    (case z0 => k_is)
    (case z1 => k_is)
    (case z2 => k_is)
    (case z3 => k_is)
    (case z4 => k_is)
    (case z5 => k_is)
    (case z6 => k_is)
    (case z7 => k_is)
    (case z8 => k_is)
    (case z9 => k_is)
    (case z10 => k_is)
    (case z11 => k_is)
    (case z12 => k_is)
    (case z13 => k_is)
    (case z14 => k_is)
    (case z15 => k_is)
    (case z16 => k_is)
    (case z17 => k_is)
    (case zg => k_is)
    (case zf => k_is)
    (case zm => k_is)
#print axioms PySem.Challenge.cw_bothwheels_k39_whole_rows_each_once_up_t_holds
