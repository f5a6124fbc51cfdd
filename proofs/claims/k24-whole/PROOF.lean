import PyProof.Rows.All
import Wide.All
import OpenK.AllK
import Wide.FinOn
import HandS.ForMost
import KE.GoesEnum
import HandS.TupMul
import KE.SortData
import PyProof.ReprRoads
import HandS.SortInts
import HandS.Conv
import HandS.NoneIn
import HandS.Walk
import HandS.TupAny
import PySem.Challenge.RW_hatchwaits_k24_whole_stays_are_numbers_i
set_option Elab.async false
set_option linter.all false
set_option maxRecDepth 100000
set_option maxHeartbeats 4000000
/-! Own rules, part A: enumerate over a tuple. -/
namespace HwA
open PySem PySem.Spec PyProof.Rows L2

theorem enum_new1 {v : Value} {o : Obj} {G : Heap → Prop} (B : Begins v o G) :
    Meets (Builtin.«enumerate.__new__» ⟨[.type "enumerate", v], []⟩) (fun _ R s => G s.heap ∧
      R (.ok (.ret (.ref (s.heap.push o).objs.size)))
        { s with heap := (s.heap.push o).push { cls := .type "enumerate", data := .fields #[.none, .bool false, .ref s.heap.objs.size, rawInt 0, .none, .none] } }) :=
  .of_wp fun prog w A R s h => by
    obtain ⟨hp, gg, dd, tk, os⟩ := s
    obtain ⟨g1, hR⟩ := h
    have subE := sub_enumerate
    have itr : ∀ {A' : Around} {E : Value → Shared → Prop} {Q : Value → Shared → Prop}, Q (.ref hp.objs.size) ⟨hp.push o, gg, dd, tk, os⟩ →
        wpAny (model prog w) A' (pyIter v) Q E ⟨hp, gg, dd, tk, os⟩ :=
      fun q => B.iter prog w _ _ ⟨hp, gg, dd, tk, os⟩ _ g1 q
    wp_walk using itr
    refine wpAny_stack_any fun st => wpAny_pure ?_
    split
    · rename_i c _ _ _ _ _
      cases (c == Value.type "enumerate") <;> (wp_walk using itr; exact ⟨_, rfl, hR⟩)
    · wp_walk using itr
      exact ⟨_, rfl, hR⟩

section
variable {prog : Program} {w : World} {A : Around} {E : Value → Shared → Prop} {s : Shared}
theorem enum_call1 {v : Value} {o : Obj} {G : Heap → Prop} {Q : Value → Shared → Prop} (B : Begins v o G) (g1 : G s.heap)
    (h : ∀ h', IsEnum h' (s.heap.objs.size + 1) s.heap.objs.size 0 .none → h'.get? s.heap.objs.size = some o →
      (∀ b ob, s.heap.get? b = some ob → h'.get? b = some ob) → Q (.ref (s.heap.objs.size + 1)) { s with heap := h' }) :
    wpAny (model prog w) A (call (.type "enumerate") [v]) Q E s := by
  refine callType_new F.called_enumerate (by decide) (F.typeCall_enumerate_1 _) (F.newCall_enumerate_1 _)
    (fun obj => F.args_object_init_2 obj _) F.entry_enumerate_new (enum_new1 B) ⟨g1, ?_⟩
  have z1 : (s.heap.push o).objs.size = s.heap.objs.size + 1 := Heap.size_push ..
  show _ ∧ _
  rw [z1]
  have e2 : IsEnum ((s.heap.push o).push { cls := .type "enumerate", data := .fields #[.none, .bool false, .ref s.heap.objs.size, rawInt 0, .none, .none] })
      (s.heap.objs.size + 1) s.heap.objs.size 0 .none := by
    have q := Heap.get?_push_size (s.heap.push o)
      (o := { cls := .type "enumerate", data := .fields #[.none, .bool false, .ref s.heap.objs.size, rawInt 0, .none, .none] }) rfl
    rw [z1] at q
    exact q
  exact ⟨⟨_, e2, rfl⟩, h _ e2 (Heap.get?_push_of_some _ (Heap.get?_push_size _ B.free))
    fun b ob x => Heap.get?_push_of_some _ (Heap.get?_push_of_some _ x)⟩
end

/-- the tuple at a (of n items), each item in a new pair with its place -/
def ItT (K : PySem.W.Frag) (a : Addr) (n : Nat) : It where
  go := fun i H => ∃ (xs : List V) (x : V), SqT K H a xs ∧ xs.length = n ∧ xs[i]? = some x
  yld := fun i H v H' => ∃ T x, v = .ref T ∧ H T = none ∧ H' = upd H T (.tup [.int (i : Nat), x]) ∧ ∀ xs, SqT K H a xs → xs[i]? = some x
  stop := fun i H => ∃ xs : List V, SqT K H a xs ∧ xs.length = n ∧ n ≤ i

theorem turn_enumT {P : Program} {w : World} {K : PySem.W.Frag} {elts : List Expr} {kk : Nat} {tpos : Pos} (a e it : Addr) (n : Nat) :
    Turn P w K (.Tuple elts kk tpos) (ItT K a n) [e, it] e
      (fun i h => (∃ old, IsEnum h e it ((i : Nat) : Int) old) ∧ h.IsTupleIter it a i ∧ e ≠ it ∧ a ≠ it ∧ e ≠ a ∧ i ≤ n) where
  mem := by simp
  obj := fun i h st b hb => by
    obtain ⟨⟨old, he⟩, ⟨o, ho, hc, hd⟩, _⟩ := st
    rcases (show b = e ∨ b = it by simpa using hb) with z | z
    · rw [z]
      exact ⟨_, he, fun v q => nomatch q⟩
    · rw [z]
      exact ⟨o, ho, fun v q => by rw [hd] at q; cases q⟩
  keep := fun i h h' st k =>
    let ⟨⟨old, he⟩, hi, hne⟩ := st
    ⟨⟨old, k e (by simp) _ he⟩, hi.at fun o q => k it (by simp) o q, hne⟩
  item := by
    intro X hP hw hK hc i pins s σ H E I hf st hg
    subst hP hw hK
    obtain ⟨⟨old, he⟩, hit, hne, hat, hea, hin⟩ := st
    obtain ⟨xs, x, hq, hn, hx⟩ := hg
    obtain ⟨its, rv, p, hz⟩ := I.tuple hq
    obtain ⟨u, hu, ru⟩ := rv.get hx
    have hel : e < s.heap.objs.size := Heap.lt_size he
    have hil : it < s.heap.objs.size := by
      obtain ⟨_, q, _⟩ := hit
      exact Heap.lt_size q
    have D := Draws.tuple (prog := X.prog) (w := X.w) (A := X.A.in1) (I.ok.hd hc) it a hat its.toArray
    have hlt : i < its.toArray.size := by
      rw [List.size_toArray]
      exact (List.getElem?_eq_some_iff.mp hu).1
    refine wpAny_pyNext_enum_itemC D he ⟨hit, p⟩ hlt hne (by simp [hne, hea]) fun y h' tk hy ho hst' hT hsz hk => ?_
    obtain ⟨hit', -⟩ := hst'
    have ey : y = u := by
      have hy' : its.toArray[i]? = some y := hy
      rw [List.getElem?_toArray, hu] at hy'
      exact (Option.some.inj hy').symm
    subst ey
    refine ⟨_, rfl, wpAny_letOwnedTupleGo_enum (s := { s with heap := h', toks := tk + 1 }) ho fun h'' he' sb => ?_⟩
    have hT2 : h''.get? s.heap.objs.size = some { cls := .type "tuple", data := .seq #[.int i tk, y] } := (sb.2 _ (Nat.ne_of_gt hel)).trans hT
    have new : ObjOk X.prog X.w (upd H s.heap.objs.size (.tup [.int (i : Nat), x])) h'' s.heap.objs.size (.tup [.int (i : Nat), x]) :=
      ⟨by show 2 ≤ sizeLine; decide, [.int i tk, y], .cons ⟨_, rfl⟩ (.cons ru .nil), ⟨_, hT2, rfl, _, rfl⟩⟩
    have I1 : Inv X pins σ (upd H s.heap.objs.size (.tup [.int (i : Nat), x])) { s with heap := h'', toks := tk + 1 } :=
      I.turnedNew (ch := [e, it]) (fun b ob hb q =>
        (sb.2 b (fun z => hb (by simp [z]))).trans (hk b ob (fun z => hb (by simp [z])) (fun z => hb (by simp [z])) q)) hf (Nat.le_refl _) new
    refine ⟨.ref s.heap.objs.size, _, I1, rfl, ⟨_, x, rfl, I.hok.fresh (Nat.le_refl _), rfl, fun ys hy => by rw [I.tuple_inj hy hq]; exact hx⟩,
      ⟨⟨y, ?_⟩, hit'.at fun o q => (sb.2 it (Ne.symm hne)).trans q, hne, hat, hea, ?_⟩, fun b hb => ?_⟩
    · rw [show ((i + 1 : Nat) : Int) = (i : Int) + 1 by omega]
      exact he'
    · rw [← hn]
      exact (List.getElem?_eq_some_iff.mp hx).1
    · have lb : b < s.heap.objs.size := by
        rcases (show b = e ∨ b = it by simpa using hb) with z | z <;> rw [z] <;> assumption
      rw [upd_ne (Nat.ne_of_lt lb)]
      exact (hf b hb).1
  done := by
    intro X hP hw hK hc i pins s σ H E I hf st hg
    subst hP hw hK
    obtain ⟨⟨old, he⟩, hit, hne, hat, hea, hin⟩ := st
    obtain ⟨xs, hq, hn, hx⟩ := hg
    obtain ⟨its, rv, p, hz⟩ := I.tuple hq
    obtain ⟨f0, f1, f2, f3, f4, f5⟩ := hf it (by simp)
    have D := Draws.tuple (prog := X.prog) (w := X.w) (A := X.A.in1) (I.ok.hd hc) it a hat its.toArray
    have ei : i = its.toArray.size := by
      rw [List.size_toArray, ← rv.length]
      omega
    refine wpAny_pyNext_enum_endD D he ⟨?_, p⟩ fun h' eb => ⟨rfl, I.turned (t' := s.toks) (fun b o hb q => eb b o hb q) f0 f1 f3 f4 f5⟩
    rw [← ei]
    exact hit
  self := fun A i s Q E st h =>
    let ⟨⟨_, he⟩, _⟩ := st
    wpAny_pyIter_enum he h

def iEnumT (K : PySem.W.Frag) (ta : TA) : TI := fun σ H R => ta σ H fun vs H1 => ∃ a xs, vs = [.ref a] ∧ SqT K H1 a xs ∧ R (ItT K a xs.length) H1
theorem pi_enumT {X : Cx} {e : Expr} {ta : TA} {p pos tpos : Pos} {elts : List Expr} {kk : Nat} (hg : Gl X "enumerate") (hm : X.mg "enumerate" = none)
    (ha : PA X [e] ta) (hs : starEach [e] X.env = [(false, eval e X.env)] := by rfl) :
    PI X (.Tuple elts kk tpos) (.Call (.Name "enumerate" p) [e] [] pos) (iEnumT X.K ta) := by
  refine ⟨fun pins s σ H R I h => ?_⟩
  refine Call_ (ld_blt I hg hm boot_enumerate (PyProof.Rows.callWith_type1 (thn (ha.run pos pins s σ H _ I h) fun us s1 ⟨vs, H1, I1, r1, q1⟩ => ?_) hs rfl))
  obtain ⟨a, xs, ex, hq, q⟩ := q1
  subst ex
  cases r1 with
  | cons r rr =>
    cases rr
    cases r
    obtain ⟨its, rv, p', hz⟩ := I1.tuple hq
    have hal : a < s1.heap.objs.size := by
      obtain ⟨_, q2, _⟩ := p'
      exact Heap.lt_size q2
    refine enum_call1 (begins_tuple a its.toArray) p' fun h' he hit hk => wpAny_pyIter_enum he ?_
    have I2 : Inv X pins σ H1 { s1 with heap := h' } := I1.kept (t' := s1.toks) hk
    refine ⟨s1.heap.objs.size + 1, [s1.heap.objs.size + 1, s1.heap.objs.size], _, _, H1, rfl, I2,
      turn_enumT a (s1.heap.objs.size + 1) s1.heap.objs.size xs.length,
      ⟨⟨.none, he⟩, ⟨_, hit, rfl, rfl⟩, Nat.succ_ne_self _, Nat.ne_of_lt hal, Nat.ne_of_gt (Nat.lt_succ_of_lt hal), Nat.zero_le _⟩, fun b hb => ?_, q⟩
    have hle : s1.heap.objs.size ≤ b := by
      rcases (show b = s1.heap.objs.size + 1 ∨ b = s1.heap.objs.size by simpa using hb) with z | z <;> rw [z]
      · exact Nat.le_add_right _ _
      · exact Nat.le_refl _
    exact I1.fpOk hle (I1.hok.fresh hle)
end HwA

/-! Own rules, part B: sorted over data that read alike, repr of a tuple. -/
namespace HwB
open PySem PySem.Spec PyProof.Rows L2

abbrev Tri := (Int × Int × Int) × Int
def enc (t : Tri) : PyData := .tuple [.tuple [.int t.1.1, .int t.1.2.1, .int t.1.2.2], .int t.2]
def srt (bs : List Tri) : List Tri := bs.mergeSort (PySem.W.dataLe false enc)

theorem each_rel {S : V → Tri → Prop} : ∀ {xs : List V} {us : List Value} {bs : List Tri}, Paired S xs bs → Vals xs us →
    PySem.W.EachIs (fun u b => ∃ v, RelV v u ∧ S v b) us bs
  | _, _, _, .nil, .nil => .nil
  | _, _, _, .cons h t, .cons r rr => .cons ⟨_, r, h⟩ (each_rel t rr)
theorem rel_each {S : V → Tri → Prop} : ∀ {us : List Value} {bs : List Tri}, PySem.W.EachIs (fun u b => ∃ v, RelV v u ∧ S v b) us bs →
    ∃ xs, Vals xs us ∧ Paired S xs bs
  | _, _, .nil => ⟨[], .nil, .nil⟩
  | _, _, .cons ⟨v, r, h⟩ t =>
    let ⟨xs, a, b⟩ := rel_each t
    ⟨v :: xs, .cons r a, .cons h b⟩

/-- sorted(xs), the items triples with a number -/
def rSortD (K : PySem.W.Frag) : List V → Hp → VK → Prop := fun vs H Q => ∃ (a : Addr) (xs : List V) (bs : List Tri) (S : V → Tri → Prop),
  vs = [.ref a] ∧ SqL K H a xs ∧ Paired S xs bs ∧ (∀ v b, S v b → Dp K H v (enc b)) ∧
  ∀ (ys : List V) (p : Addr), H p = none → Paired S ys (srt bs) → Q (.ref p) (upd H p (.lst ys))
theorem cr_sortD {X : Cx} (hu : X.A.units + 64 < cLine) : CallR X (.builtin "sorted") (rSortD X.K) := by
  intro pins s σ H vs us Q I r h
  obtain ⟨a, xs, bs, S, rfl, hs, hS, hD, q⟩ := h
  obtain ⟨its, rv, hl, hz⟩ := I.list hs
  rw [Vals.ref1 r]
  have e := each_rel hS rv
  have lb : bs.length = xs.length := hS.length.symm
  refine PySem.W.sorted_data (enc := enc) hl.isList e (e.mono fun u b ⟨v, rr, hv⟩ => Dp.reads I _ v u (hD v b hv) rr)
    (PySem.W.AllAlike.of fun _ _ => by simp [PySem.W.alike, PySem.W.alikeAll, enc]) (PySem.W.Sortable.tuples fun _ => ⟨_, _, rfl⟩) (by rw [lb]; exact hz) (fun b _ => ?_) fun out hlen eo => ?_
  · have hd : (enc b).depth = 2 := by simp [enc, PyData.depth, PyData.depthAll]
    omega
  · obtain ⟨ys, rv2, pv⟩ := rel_each eo
    obtain ⟨ep, he'⟩ := PyProof.Rows.sortedAll_at s.heap its out.toArray
    have hz2 : ys.length ≤ sizeLine := by
      rw [rv2.length, hlen, lb]
      exact hz
    exact ⟨.ref _, upd H (s.heap.objs.size + 1) (.lst ys), I.laid (t' := s.toks) (fun _ _ => PyProof.Rows.sortedAll_old) (Nat.le_succ _)
      ⟨hz2, out, ep, rv2, he'⟩, rfl, q ys _ (I.hok.fresh (Nat.le_succ _)) pv⟩

/-- repr(t), t a tuple; nothing else is being shown -/
def rRepr (K : PySem.W.Frag) : List V → Hp → VK → Prop := fun vs H Q => ∃ (a : Addr) (d : PyData),
  vs = [.ref a] ∧ Dp K H (.ref a) d ∧ d.showable = true ∧ d.hasDict = false ∧ d.depth ≤ 10 ∧ d.shown.length ≤ sizeLine ∧ Q (.str d.shown) H
theorem cr_repr {X : Cx} (hg : X.A.guards = some []) (hu : X.A.units + 64 < cLine) : CallR X (.builtin "repr") (rRepr X.K) := by
  intro pins s σ H vs us Q I r h
  obtain ⟨a, d, rfl, hd, sh, nd, dep, sz, q⟩ := h
  rw [Vals.ref1 r]
  obtain ⟨as, hr⟩ := Dp.reads I d (.ref a) (.ref a) hd rfl
  refine repr_of_reads' hr sh (PyData.noDict_hsm nd) hg (by omega) (fun _ _ q => q) (fun h' u tk hk => ?_) sz
  exact ⟨.str d.shown, H, I.kept hk, ⟨u, rfl⟩, q⟩
end HwB

/-! Own rules, part C: a tuple times any small number from 0 on. -/
namespace HwC
open PySem PySem.Spec PyProof.Rows L2

theorem mul_one_meets (l : Addr) (items : Array Value) (n : Nat) (dd : Option Addr) (sl : Array (Option Value)) (u : Tok) (ne : items.isEmpty = false) :
    Meets (Builtin.«tuple.__mul__» ⟨[.ref l, .int 1 u], []⟩)
      (fun _ R s => s.heap.get? l = some { cls := .type "tuple", dict := dd, data := .seq items n, slots := sl } ∧ R (.ok (.ret (.ref l))) s) :=
  .of_wp fun prog w A R s h => by
    obtain ⟨hp, g, d, tk, os⟩ := s
    obtain ⟨hl, hR⟩ := h
    have f1 := AutoSeq1.idx_int
    have b1 : (decide ((1 : Int) < -(2 ^ 63)) || decide ((1 : Int) ≥ 2 ^ 63)) = false := by decide
    have b2 : (items.isEmpty || (1 : Int) == 1) = true := by rw [ne]; decide
    wp_walk using AutoSeq1.wpAny_loadPart' hl
    repeat (first
      | (refine wpAny_ite_false (decide_eq_false (by rw [b1]; exact Bool.false_ne_true)) ?_; wp_walk using AutoSeq1.wpAny_loadPart' hl)
      | (refine wpAny_ite_true (decide_eq_true b2) ?_; wp_walk using AutoSeq1.wpAny_loadPart' hl))
    exact ⟨_, rfl, hR⟩
theorem mul_zero_meets (l : Addr) (items : Array Value) (n : Nat) (dd : Option Addr) (sl : Array (Option Value)) (u : Tok) (ne : items.isEmpty = false) :
    Meets (Builtin.«tuple.__mul__» ⟨[.ref l, .int 0 u], []⟩)
      (fun _ R s => s.heap.get? l = some { cls := .type "tuple", dict := dd, data := .seq items n, slots := sl } ∧
        R (.ok (.ret (.ref s.heap.objs.size))) { s with heap := s.heap.push { cls := .type "tuple", data := .seq #[] } }) :=
  .of_wp fun prog w A R s h => by
    obtain ⟨hp, g, d, tk, os⟩ := s
    obtain ⟨hl, hR⟩ := h
    have f1 := AutoSeq1.idx_int
    have b1 : (decide ((0 : Int) < -(2 ^ 63)) || decide ((0 : Int) ≥ 2 ^ 63)) = false := by decide
    have b2 : (items.isEmpty || (0 : Int) == 1) = false := by rw [ne]; decide
    wp_walk using AutoSeq1.wpAny_loadPart' hl
    repeat (first
      | (refine wpAny_ite_false (decide_eq_false (by rw [b1]; exact Bool.false_ne_true)) ?_; wp_walk using AutoSeq1.wpAny_loadPart' hl)
      | (refine wpAny_ite_false (decide_eq_false (by rw [b2]; exact Bool.false_ne_true)) ?_; wp_walk using AutoSeq1.wpAny_loadPart' hl))
    exact ⟨_, rfl, hR⟩

/-- t * k: t a tuple with an item, k from 0 on -/
def rRepA : R2 := fun x y H Q => ∃ l k xs, x = .ref l ∧ y = .int k ∧ H l = some (.tup xs) ∧ xs ≠ [] ∧ 0 ≤ k ∧ k ≤ 1000 ∧ xs.length ≤ 1000 ∧
  ∀ p ys, ys = (List.replicate k.toNat xs).flatten → ∀ H', Same H H' → H' p = some (.tup ys) → Q (.ref p) H'
section
variable {X : Cx}
theorem op_repA : OpR X (binaryOp .Mult) rRepA := by
  intro pins s σ H x y v u Q I rx ry h
  obtain ⟨l, k, xs, rfl, rfl, hT0, hne, h1, h2, hz, q⟩ := h
  have hT : SqT X.K H l xs := SqT.of hT0
  by_cases hk : 2 ≤ k
  · exact op_repT pins s σ H _ _ v u Q I rx ry ⟨l, k, xs, rfl, rfl, hT, hne, hk, h2, hz, fun p np =>
      q p _ rfl _ (fun b o e => by rw [upd_ne (ne_of_none e np)]; exact e) upd_same⟩
  cases rx
  obtain ⟨t, rfl⟩ := ry
  obtain ⟨its, r, ⟨⟨cls, dd, data, sl⟩, ho, hc, n, hd⟩, hs⟩ := I.tuple hT
  simp only at hc hd
  subst hc hd
  have hle : its.length = xs.length := r.length.symm
  have hi : its.toArray.isEmpty = false := by
    cases its with
    | nil => exact absurd (List.eq_nil_of_length_eq_zero hle.symm) hne
    | cons a b => rfl
  have k01 : k = 0 ∨ k = 1 := by omega
  rcases k01 with rfl | rfl
  · refine wpAny_binaryOp_repeat_ref (T := "tuple") (U := "int") (by decide) ⟨_, ho, rfl⟩ (fun s' => typeIs_int s' 0 t) noFill_tuple_mul F.fills_int_mul F.slot_int_rmul repeat_tuple F.slot_int_index.lookup
      (call_meets F.slot_int_rmul (typeIs_int s 0 t) F.entry_int_rmul (F.args_int_rmul_2 _ _) (int_rmul_tuple 0 t l its.toArray n dd sl)
        ⟨ho, rfl, ⟨_, ho, rfl⟩, call_meets F.slot_tuple_mul ⟨_, ho, rfl⟩ F.entry_tuple_mul (F.args_tuple_mul_2 _ _) (mul_zero_meets l its.toArray n dd sl t hi) ⟨ho, ?_⟩⟩)
    have np := I.hok.fresh (Nat.le_refl s.heap.objs.size)
    refine ⟨.ref s.heap.objs.size, _, I.laid (t' := s.toks) (o := .tup []) (fun b ob q => Heap.get?_push_of_some _ q) (Nat.le_refl _) ?_, rfl,
      q _ [] rfl _ (fun b o e => by rw [upd_ne (ne_of_none e np)]; exact e) upd_same⟩
    exact ⟨Nat.zero_le _, [], .nil, IsTup.new _ _⟩
  · refine wpAny_binaryOp_repeat_ref (T := "tuple") (U := "int") (by decide) ⟨_, ho, rfl⟩ (fun s' => typeIs_int s' 1 t) noFill_tuple_mul F.fills_int_mul F.slot_int_rmul repeat_tuple F.slot_int_index.lookup
      (call_meets F.slot_int_rmul (typeIs_int s 1 t) F.entry_int_rmul (F.args_int_rmul_2 _ _) (int_rmul_tuple 1 t l its.toArray n dd sl)
        ⟨ho, rfl, ⟨_, ho, rfl⟩, call_meets F.slot_tuple_mul ⟨_, ho, rfl⟩ F.entry_tuple_mul (F.args_tuple_mul_2 _ _) (mul_one_meets l its.toArray n dd sl t hi) ⟨ho, ?_⟩⟩)
    exact ⟨.ref l, H, I, rfl, q l xs (by simp) H (Same.refl H) hT0⟩
end
end HwC

/-! Own rules, part D: defs whose promise is kept where nothing is being shown (no guard stands), their calls, the law's end. -/
namespace HwD
open PySem PySem.Spec PyProof.Rows L2

/-- a def's promise, kept where no guard stands -/
structure FnG (P : Program) (w : World) (K : PySem.W.Frag) (mg : Str → Option Value) (base : Heap) (k : Nat) (f : Addr) (fd : FuncData) (ps : List Str) (sp : Sp) : Prop where
  len : ∀ vs H Q, sp vs H Q E0 → vs.length = ps.length
  run : ∀ (A : Around) (outer : List Env) (s : Shared) (H : Hp) (args : Args) (us : List Value) (vs : List V) (Q : VK), Room k A → A.guards = some [] →
    Env0 P w K mg base A outer s H → BindsTo s fd args (ps.zip us) → Vals vs us → sp vs H Q E0 → codeAny (model P w) A (.call (.ref f) args) (CR CX0 outer P w H s Q E0) s

section
variable {P : Program} {w : World} {K : PySem.W.Frag} {mg : Str → Option Value} {base : Heap}
theorem okG {x qual : Str} {st : Stmt} {f : Addr} {fd : FuncData} {N ps : List Str} {k : Nat} {sp : Sp} (F : Fun K x qual st f fd) (S : FnScope N ps (defScope st)) (len : ∀ vs H Q, sp vs H Q E0 → vs.length = ps.length)
    (hbody : ∀ (cdv : Value) (A : Around) (outer : List Env) (s : Shared) (H : Hp) (vs : List V) (Q : VK), A.guards = some [] → Room k (A.deeper (envOfC qual (defScope st) s.heap.objs.size f cdv)) → sp vs H Q E0 →
      ∃ t, PSs (cxOf CX0 P w K mg base N qual (defScope st) f cdv A outer s H E0).nox (defBody st) t ∧ t { nx := fun _ H' => Q .non H', rt := Q } (start N vs) H) :
    FnG P w K mg base (k + 1) f fd ps sp := by
  obtain ⟨oc, od, kV, doc, pm, an, cdv, ct, osl, rfl, lk, hcd⟩ := F.ex
  constructor
  · exact len
  intro A outer s H args us vs Q room hg env bnd rel prom
  have nvs := len _ _ _ prom
  have kheap : K.In s.heap := env.mod.kin.keeps (fun b o e => (env.bs b o e).1)
  have nlim : s.heap.NoLimit := env.mod.nolimit.keeps (fun b o e => (env.bs b o e).1)
  have kinds : ∀ y ∈ ps.zip us, (defScope st).names.lookup y.1 = some .local ∨
      ((defScope st).names.lookup y.1 = some .cell ∧ ((cellsFrom (s.heap.objs.size + 1) (defScope st).names []).lookup y.1).isSome = true) := by
    rintro ⟨n, v⟩ hy
    exact (S.par n (List.of_mem_zip hy).1).imp id fun q => ⟨q, PySem.W.cellsFrom_some _ _ _ (.inl q)⟩
  apply codeAny_call_function room.depth (kheap _ _ lk) rfl S.co S.gen rfl (PySem.W.codeRec_of kheap hcd)
  apply bnd
  apply wpAny_newFunctionEnv_cells S.kind kinds
  rintro env' rfl s1 x
  refine ⟨nlim.keeps x.toInCall.keep, codeAny_func ?_⟩
  obtain ⟨t, ht, ht2⟩ := hbody cdv A outer s H vs Q hg (room.deeper _) prom
  have I0 : Inv (cxOf CX0 P w K mg base N qual (defScope st) f cdv A outer s H E0) [] (start N vs) H s1 := inv_start S room.hd env nvs rel x
  have fin : ∀ {σ' : L2.St} {H' : Hp} {v : V} {u : Value} {s' : Shared}, Inv (cxOf CX0 P w K mg base N qual (defScope st) f cdv A outer s H E0) [] σ' H' s' →
      RelV v u → Q v H' → CE outer P w H s Q u s' := by
    intro σ' H' v u s' J rv q
    exact ⟨v, H', J.os, J.bare, J.base, J.hok, rv, q⟩
  refine wpAny_mono (ht.nox.run [] s1 (start N vs) H _ I0 ht2) ?_ (fun e s' z => z)
  intro fl s' z
  cases fl with
  | ret u =>
    obtain ⟨v, σ', H', J, rv, q⟩ := z
    exact fin J rv q
  | next =>
    obtain ⟨σ', H', J, q⟩ := z
    exact fin (v := V.non) (u := Value.none) J rfl q
  | brk => exact z.elim fun _ z => z.elim fun _ z => z.2.elim
  | cont => exact z.elim fun _ z => z.elim fun _ z => z.2.elim
end

section
variable {X : Cx} {k : Nat} {f : Addr} {fd : FuncData} {ps : List Str} {sp : Sp} {x : Str} {p pos : Pos} {e : Expr} {es : List Expr} {t : TA}
/-- the call of such a def, where no guard stands -/
theorem pe_callG (F : FnG X.prog X.w X.K X.mg X.base k f fd ps sp) (hG : X.A.guards = some []) (hr : Room k X.A) (hg : Gl X x) (hm : X.mg x = some (.ref f))
    (hk : PySem.W.keepIn X.K (.ref f) = true) (hb : Binds X.K fd ps []) (ha : PA X (e :: es) t) (hdb : (x == ("__debug__" : Str)) = false := by decide)
    (he : starEach (e :: es) X.env = (false, eval e X.env) :: starEach es X.env := by rfl) (hpl : (backTo pos (starEach es X.env)).any (·.1) = false := by rfl) :
    PE X (.Call (.Name x p) (e :: es) [] pos) (tCall sp [] E0 t) := by
  constructor
  intro pins s σ H Q I h
  apply wpAny_Call_Name_kw
  apply ld_glob I hg hm _ hdb
  refine PySem.W.callWith_K (h₀ := X.base) I.ok.mod.kin hk (thn (ha.run pos pins s σ H _ I h) ?_) he hpl
  rintro us s1 ⟨vs, H1, I1, r, q⟩
  refine ⟨I1.kIn, ?_⟩
  have q' : sp vs H1 Q E0 := by
    have e0 : vs ++ ([] : List V) = vs := List.append_nil vs
    rw [← e0]
    exact q
  have hl : us.length = ps.length := by
    rw [← r.length]
    exact F.len _ _ _ q'
  have bt : BindsTo s1 fd ⟨us, []⟩ (ps.zip us) := by
    have b0 := hb s1 us I1.kIn (by rw [List.append_nil]; exact hl)
    rw [List.append_nil] at b0
    exact b0
  refine wpAny_call (codeAny_mono (F.run X.A X.stack s1 H1 ⟨us, []⟩ us vs Q hr hG I1.env0 bt r q') ?_)
  intro rr s' hq
  cases rr with
  | error e => exact hq.elim
  | ok fl =>
    cases fl with
    | ret u => exact I1.after hq
    | next => exact hq.elim
    | brk => exact hq.elim
    | cont => exact hq.elim
end

/-- the law's call behind the top, from a promise that is kept where no guard stands -/
theorem law_callG {P : Program} {w : World} {K : PySem.W.Frag} {mg mb : Str → Option Value} {k : Nat} {fa a : Addr} {fd : FuncData} {x : Str} {sp : Sp} {s1 : Shared} {vs : List Value} {ns : List Int}
    (KX : K.In s1.heap) (hns : s1.heap.Ns mainGlobals mg) (hb : s1.heap.Ns builtinsNs mb) (hbb : ∀ x : Str, x ≠ "__name__" → mb x = bootBuiltins x) (hlim : s1.heap.NoLimit) (hgn : s1.gens = #[])
    (ha : s1.heap.get? a = some { cls := .type "list", data := .seq vs.toArray }) (hi : IntsAre vs ns) (hl : ns.length ≤ sizeLine) (hr : Room k callerA)
    (F : ∀ base : Heap, K.In base → base.Ns mainGlobals mg → FnG P w K mg base k fa fd [x] sp) (hbind : ∀ (s : Shared) (u : Value), BindsTo s fd ⟨[u], []⟩ [(x, u)])
    (hsp : ∀ H : Hp, Only H → SqL K H a (ns.map V.int) → sp [.ref a] H (fun v _ => v = .bl true) E0) :
    codeAny (model P w) callerA (.call (.ref fa) ⟨[.ref a], []⟩) (fun r s' => r = .ok (.ret (.bool true)) ∧ OldK s1.heap s'.heap ∧ s'.os = s1.os ∧ AllBare s'.gens) s1 := by
  have rel := vals_ints hi
  have nlen := hi.length
  -- the abstract heap: the script alone, or nothing
  suffices core : ∀ H : Hp, Only H → SqL K H a (ns.map V.int) → HOk P w H s1.heap → (∀ b u, H b = some u → b = a ∧ K.lookup a = none) →
      codeAny (model P w) callerA (.call (.ref fa) ⟨[.ref a], []⟩) (fun r s' => r = .ok (.ret (.bool true)) ∧ OldK s1.heap s'.heap ∧ s'.os = s1.os ∧ AllBare s'.gens) s1 by
    cases hk : K.lookup a with
    | some o =>
      have e := KX a o hk
      rw [ha] at e
      cases e
      exact core (fun _ => none) (fun _ => .inl rfl) (.inr ⟨_, vs.toArray, _, hk, rfl, rfl, rfl, by rw [List.size_toArray, nlen]; exact hl, by simpa using rel⟩)
        (fun b u z => nomatch (z : (none : Option HO) = some u)) (fun b u z => nomatch (z : (none : Option HO) = some u))
    | none =>
      let ob : Obj := { cls := .type "list", data := .seq vs.toArray }
      let H0 : Hp := fun b => if b = a then some (.frz ob (.lst (ns.map V.int))) else none
      have at_ : H0 a = some (.frz ob (.lst (ns.map V.int))) := if_pos rfl
      have off : ∀ b, b ≠ a → H0 b = none := fun b hb => if_neg hb
      have only : ∀ b u, H0 b = some u → b = a := fun b u z => Classical.byContradiction fun hb => by
        rw [off b hb] at z
        cases z
      refine core H0 (fun b => ?_) (.inl (.inr ⟨ob, at_⟩)) (fun b u z => ?_) (fun b u z => ⟨only b u z, hk⟩)
      · by_cases hb : b = a
        · rw [hb]
          exact .inr ⟨_, _, at_⟩
        · exact .inl (off b hb)
      · have hb := only b u z
        subst hb
        rw [at_] at z
        cases z
        exact ⟨ha, by rw [List.length_map]; exact hl, vs, _, rel, ha⟩
  intro H hO hS hok hA
  have keepH : ∀ {b : Addr} {o : Obj}, s1.heap.get? b = some o → H b = none → (hidT s1.heap H).get? b = some o := fun e n => hidT_get e n
  have dicts : ∀ {b : Addr} {o : Obj} {es : Array DictEntry} {ep : Nat}, s1.heap.get? b = some o → o.data = .dict es ep → H b = none := by
    intro b o es ep e d
    cases q : H b with
    | none => rfl
    | some u =>
      obtain ⟨rfl, -⟩ := hA b u q
      rw [ha] at e
      cases e
      exact nomatch (d : Data.seq vs.toArray _ = Data.dict es ep)
  have nsK : ∀ {b : Addr} {m : Str → Option Value}, s1.heap.Ns b m → (hidT s1.heap H).Ns b m := by
    rintro b m ⟨o, es, ep, e, d, r⟩
    exact ⟨o, es, ep, keepH e (dicts e d), d, r⟩
  have kb : K.In (hidT s1.heap H) := by
    intro b o e
    refine keepH (KX b o e) ?_
    cases q : H b with
    | none => rfl
    | some u =>
      obtain ⟨rfl, hn⟩ := hA b u q
      rw [hn] at e
      cases e
  have md : Mod K mg (hidT s1.heap H) := by
    refine ⟨kb, nsK hns, ⟨mb, nsK hb, hbb⟩, ?_⟩
    obtain ⟨mc, h1, h2⟩ := hlim
    exact ⟨mc, nsK h1, h2⟩
  have e0 : Env0 P w K mg (hidT s1.heap H) callerA [] s1 H :=
    ⟨rfl, md, fun b o e => of_hidT e, Nat.le_of_eq (hidT_size _ _), trivial, fun b hb => absurd (hb : b ∈ ([] : List Addr)) (List.not_mem_nil), hok, .of_eq hgn⟩
  refine codeAny_mono ((F _ kb (nsK hns)).run callerA [] s1 H ⟨[.ref a], []⟩ [.ref a] [.ref a] _ hr rfl e0 (hbind s1 (.ref a)) (.cons rfl .nil) (hsp H hO hS)) ?_
  intro r s' h
  cases r with
  | error e => exact h.elim
  | ok fl =>
    cases fl with
    | next => exact h.elim
    | brk => exact h.elim
    | cont => exact h.elim
    | ret u =>
      obtain ⟨v, H', os, bare, un, hok', r', q⟩ := h
      obtain rfl : v = .bl true := q
      obtain rfl : u = Value.bool true := r'
      refine ⟨rfl, OldK.of_keep fun b o e => ?_, os, bare⟩
      cases q : H b with
      | none => exact un.keep b o e q (fun z => absurd (z : b ∈ ([] : List Addr)) (List.not_mem_nil)) (by simp)
      | some u =>
        rcases hO b with z | ⟨ob, xs, z⟩
        · rw [q] at z
          cases z
        · have z2 := un.frzs b ob _ z
          obtain ⟨e1, _⟩ := hok b _ z
          obtain ⟨e2, _⟩ := hok' b _ z2
          rw [e] at e1
          cases e1
          exact e2

theorem walk_ofG {l : PySem.W.OpenLaw} {n k : Nat} {q : Program} {loose : List Str} {XP : (Str → Option Value) → Heap → Prop} {YP : World → Heap → Prop} {d : DefRec} {K : Params → PySem.W.Frag} {sp : PySem.W.Frag → Sp} {x : Str}
    (hn : l.most = some n) (hn2 : n ≤ sizeLine) (hdf : d.params.defaults = []) (hr : Room k callerA)
    (hY : ∀ (w : World) (h : Heap), YP w h → (K w.params).In h)
    (F : ∀ (w : World) (mg : Str → Option Value) (fa : Addr) (h : Heap), (K w.params).In h → h.Ns mainGlobals mg → mg d.name = some (.ref fa) →
      ∃ fd : FuncData, (∀ (s : Shared) (u : Value), BindsTo s fd ⟨[u], []⟩ [(x, u)]) ∧
        ∀ base : Heap, (K w.params).In base → base.Ns mainGlobals mg → FnG l.prog w (K w.params) mg base k fa fd [x] (sp (K w.params)))
    (hsp : ∀ (K : PySem.W.Frag) (H : Hp) (a : Addr) (ns : List Int), ns.length ≤ n → Only H → SqL K H a (ns.map V.int) → sp K [.ref a] H (fun v _ => v = .bl true) E0) :
    PySem.W.WalkO q loose XP YP l.row.toRowW d [] (fun f vs => PySem.call f vs) := by
  apply Att.attach_call hn hdf
  intro w s₀ s₁ mg mb fa o pm cd doc a vs ns G Y ho hd hcd hmg hobj hints hlen hg
  have KX := hY w _ Y
  obtain ⟨fd, hb, hF⟩ := F w mg fa _ KX G.T.g hmg
  exact law_callG KX G.T.g G.T.b G.T.builtins G.T.nolimit hg hobj hints (Nat.le_trans hlen hn2) hr hF hb (fun H hO hS => hsp (K w.params) H a ns hlen hO hS)
end HwD

/-! The mirrors: what each def of the program computes, over plain lists. -/
namespace Hw
open PySem HwB

structure Per where
  rank : Int
  left : Int
  bg : Bool
structure Hs where
  hands : Int
  places : Option Int
  rule : Str
abbrev Com := Int × Int
abbrev p0 : Per := ⟨0, 0, false⟩
abbrev c0 : Com := (0, 0)

def keepsB (r : Str) : Bool := decide (r = "first" ∨ r = "last" ∨ r = "short" ∨ r = "front")
def roomB (pl : Option Int) (n : Nat) : Bool := match pl with
  | none => true
  | some k => decide ((n : Int) < k)
def letUp (pl : Option Int) (st : List Per) (b : List Com) : Nat → List Per × Nat
  | 0 => (st, 0)
  | i + 1 =>
    if roomB pl (letUp pl st b i).1.length = true then ((letUp pl st b i).1 ++ [⟨(b.getD i c0).1, (b.getD i c0).2, false⟩], (letUp pl st b i).2)
    else ((letUp pl st b i).1, (letUp pl st b i).2 + 1)
def ins (h : Hs) (st : List Per) (b : List Com) : List Per := (letUp h.places st b b.length).1
def lostN (h : Hs) (st : List Per) (b : List Com) : Nat := (letUp h.places st b b.length).2

def own1 (r : Str) (k : Int) : Int × Int := if r = "last" ∨ r = "lastoff" then (0 - k, 0) else (k, 0)
def own2 (r : Str) (p : Per) (k : Int) : Int × Int := if r = "short" ∨ r = "shortoff" then (p.left, k) else own1 r k
def own3 (r : Str) (p : Per) (k : Int) : Int × Int := if r = "front" ∨ r = "frontoff" then (p.rank, k) else own2 r p k
def turnOf (r : Str) (p : Per) (k : Int) : Int × Int × Int := (if p.bg = true then 0 else 1, (own3 r p k).1, (own3 r p k).2)
def lineOf (r : Str) (st : List Per) : List Tri := (List.range st.length).map fun k => (turnOf r (st.getD k p0) (k : Int), (k : Int))
def sortI (l : List Int) : List Int := l.mergeSort fun a b => decide (a ≤ b)
def pk (h : Hs) (st : List Per) : List Int := sortI (((srt (lineOf h.rule st)).take h.hands.toNat).map (·.2))

structure A3 where
  kept : List Per
  beh : List Per
  gone : List Int
def stepUp (r : Str) (some : List Int) (l : List Per) : Nat → A3
  | 0 => ⟨[], [], []⟩
  | k + 1 =>
    if (k : Int) ∈ some then
      if (l.getD k p0).left = 1 then { stepUp r some l k with gone := (stepUp r some l k).gone ++ [(k : Int)] }
      else if r = "turns" then { stepUp r some l k with beh := (stepUp r some l k).beh ++ [⟨(l.getD k p0).rank, (l.getD k p0).left - 1, false⟩] }
      else { stepUp r some l k with kept := (stepUp r some l k).kept ++ [⟨(l.getD k p0).rank, (l.getD k p0).left - 1, keepsB r⟩] }
    else { stepUp r some l k with kept := (stepUp r some l k).kept ++ [l.getD k p0] }
def st3 (h : Hs) (st : List Per) (b : List Com) : A3 := stepUp h.rule (pk h (ins h st b)) (ins h st b) (ins h st b).length
def nxt (h : Hs) (st : List Per) (b : List Com) : List Per := (st3 h st b).kept ++ (st3 h st b).beh
def gn (h : Hs) (st : List Per) (b : List Com) : List Int := (st3 h st b).gone
/-- the stand at each moment, from the empty house on -/
def S (h : Hs) (w : Nat → List Com) : Nat → List Per
  | 0 => []
  | i + 1 => nxt h (S h w i) (w i)
/-- who is in the house in beat i -/
def Ins (h : Hs) (w : Nat → List Com) (i : Nat) : List Per := ins h (S h w i) (w i)

def gv {α : Type} (n : Nat) (f : Nat → Bool) (v : Nat → α) : List α := ((List.range n).filter f).map v
theorem gv_yes {α : Type} {n : Nat} {f : Nat → Bool} {v : Nat → α} (h : f n = true) : gv (n + 1) f v = gv n f v ++ [v n] := by
  unfold gv
  rw [List.range_succ, List.filter_append, List.map_append, List.filter_cons, if_pos h] <;> rfl
theorem gv_no {α : Type} {n : Nat} {f : Nat → Bool} {v : Nat → α} (h : f n = false) : gv (n + 1) f v = gv n f v := by
  unfold gv
  rw [List.range_succ, List.filter_append, List.map_append, List.filter_cons, if_neg (by rw [h]; decide)]
  simp
def nb (r : Str) (names : List Nat) (places gone : List Int) : List Nat :=
  if r = "turns" then gv names.length (fun k => !decide ((k : Int) ∈ places)) (fun k => names.getD k 0) ++
    gv places.length (fun j => !decide (places.getD j 0 ∈ gone)) (fun j => names.getD (places.getD j 0).toNat 0)
  else gv names.length (fun k => !decide ((k : Int) ∈ gone)) (fun k => names.getD k 0)

structure Row where
  beat : Nat
  ent : Bool
  wts : Nat
  gone : Option Nat
abbrev r0 : Row := ⟨0, false, 0, none⟩
def bumpW (rows : List Row) (nm : Nat) : List Row := rows.set nm { rows.getD nm r0 with wts := (rows.getD nm r0).wts + 1 }
def setG (rows : List Row) (nm t : Nat) : List Row := rows.set nm { rows.getD nm r0 with gone := some t }
def rowsUp (pl gn : List Int) (t : Nat) (names : List Nat) (rows : List Row) : Nat → List Row
  | 0 => rows
  | k + 1 =>
    let a := if (k : Int) ∈ pl then rowsUp pl gn t names rows k else bumpW (rowsUp pl gn t names rows k) (names.getD k 0)
    if (k : Int) ∈ gn then setG a (names.getD k 0) (t + 1) else a
structure Fo where
  names : List Nat
  rows : List Row
def newRows (t many n : Nat) : List Row := (List.range n).map fun k => ⟨t, decide (k < many), 0, none⟩
def newNames (first many : Nat) : List Nat := (List.range many).map fun k => first + k
/-- one beat of the follower, at moment t: the stand and the comers are given -/
def foStep (h : Hs) (t : Nat) (st : List Per) (b : List Com) (F : Fo) : Fo :=
  let I := ins h st b
  let many := I.length - st.length
  let names := F.names ++ newNames F.rows.length many
  ⟨nb h.rule names (pk h I) (gn h st b), rowsUp (pk h I) (gn h st b) t names (F.rows ++ newRows t many b.length) names.length⟩
def fo (h : Hs) (w : Nat → List Com) : Nat → Fo
  | 0 => ⟨[], []⟩
  | t + 1 => foStep h t (S h w t) (w t) (fo h w t)

/-! ### first facts -/
theorem letUp_len (pl : Option Int) (st : List Per) (b : List Com) : ∀ i, (letUp pl st b i).1.length + (letUp pl st b i).2 = st.length + i
  | 0 => rfl
  | i + 1 => by
    have ih := letUp_len pl st b i
    unfold letUp
    split
    · simp only [List.length_append, List.length_cons, List.length_nil]
      omega
    · show (letUp pl st b i).1.length + ((letUp pl st b i).2 + 1) = _
      omega
theorem letUp_le (pl : Option Int) (st : List Per) (b : List Com) : ∀ i, (letUp pl st b i).2 ≤ i
  | 0 => Nat.le_refl _
  | i + 1 => by
    have ih := letUp_le pl st b i
    unfold letUp
    split
    · exact Nat.le_succ_of_le ih
    · exact Nat.succ_le_succ ih
theorem ins_len (h : Hs) (st : List Per) (b : List Com) : (ins h st b).length + lostN h st b = st.length + b.length := letUp_len _ _ _ _
theorem lost_le (h : Hs) (st : List Per) (b : List Com) : lostN h st b ≤ b.length := letUp_le _ _ _ _
theorem ins_ge (h : Hs) (st : List Per) (b : List Com) : st.length ≤ (ins h st b).length := by
  have a := ins_len h st b
  have c := lost_le h st b
  omega
theorem ins_le (h : Hs) (st : List Per) (b : List Com) : (ins h st b).length ≤ st.length + b.length := by
  have a := ins_len h st b
  omega

theorem stepUp_len (r : Str) (some : List Int) (l : List Per) : ∀ k, (stepUp r some l k).kept.length + (stepUp r some l k).beh.length + (stepUp r some l k).gone.length = k
  | 0 => rfl
  | k + 1 => by
    have ih := stepUp_len r some l k
    unfold stepUp
    split
    · split
      · simp only [List.length_append, List.length_cons, List.length_nil]
        omega
      · split
        · simp only [List.length_append, List.length_cons, List.length_nil]
          omega
        · simp only [List.length_append, List.length_cons, List.length_nil]
          omega
    · simp only [List.length_append, List.length_cons, List.length_nil]
      omega
theorem stepUp_gone (r : Str) (some : List Int) (l : List Per) : ∀ k z, z ∈ (stepUp r some l k).gone → z ∈ some ∧ 0 ≤ z ∧ z < (k : Int)
  | 0, z, h => absurd h List.not_mem_nil
  | k + 1, z, h => by
    have ih := stepUp_gone r some l k z
    have up : z ∈ (stepUp r some l k).gone → z ∈ some ∧ 0 ≤ z ∧ z < ((k + 1 : Nat) : Int) := fun q => by
      obtain ⟨a, b, c⟩ := ih q
      exact ⟨a, b, by omega⟩
    unfold stepUp at h
    split at h
    · split at h
      · rcases List.mem_append.mp h with q | q
        · exact up q
        · have e : z = (k : Int) := by simpa using q
          subst e
          exact ⟨by assumption, by omega, by omega⟩
      · split at h <;> exact up h
    · exact up h
theorem stepUp_nodup (r : Str) (some : List Int) (l : List Per) : ∀ k, (stepUp r some l k).gone.Nodup
  | 0 => List.nodup_nil
  | k + 1 => by
    have ih := stepUp_nodup r some l k
    unfold stepUp
    split
    · split
      · refine List.nodup_append.mpr ⟨ih, by simp, fun a ha b hb e => ?_⟩
        have e2 : b = (k : Int) := by simpa using hb
        have q := (stepUp_gone r some l k a ha).2.2
        omega
      · split <;> exact ih
    · exact ih
theorem nxt_len (h : Hs) (st : List Per) (b : List Com) : (nxt h st b).length + (gn h st b).length = (ins h st b).length := by
  have q := stepUp_len h.rule (pk h (ins h st b)) (ins h st b) (ins h st b).length
  unfold nxt gn st3
  rw [List.length_append]
  exact q
end Hw

/-! Plain maths, part 1: who is picked (how many, which places), the names behind a beat. -/
namespace Hw
open PySem HwB

theorem sortI_perm (l : List Int) : (sortI l).Perm l := List.mergeSort_perm _ _
theorem sortI_sorted (l : List Int) : (sortI l).Pairwise (· ≤ ·) := by
  have q := List.pairwise_mergeSort (le := fun a b : Int => decide (a ≤ b)) (fun a b c h1 h2 => by simp only [decide_eq_true_eq] at *; omega)
    (fun a b => by simp only [Bool.or_eq_true, decide_eq_true_eq]; omega) l
  exact q.imp fun h => by simpa using h
/-- a rising arrangement is the one -/
theorem sortI_one {l m : List Int} (h1 : m.Perm l) (h2 : m.Pairwise (· ≤ ·)) : m = sortI l :=
  List.Perm.eq_of_pairwise (fun a b _ _ x y => Int.le_antisymm x y) h2 (sortI_sorted l) (h1.trans (sortI_perm l).symm)

theorem line_snd (r : Str) (st : List Per) : (lineOf r st).map (·.2) = (List.range st.length).map fun k : Nat => (k : Int) := by
  unfold lineOf
  rw [List.map_map]
  rfl
theorem line_len (r : Str) (st : List Per) : (lineOf r st).length = st.length := by
  unfold lineOf
  rw [List.length_map, List.length_range]
theorem casts_nodup (n : Nat) : ((List.range n).map fun k : Nat => (k : Int)).Nodup :=
  List.Pairwise.map _ (fun a b hab e => hab (by omega)) List.nodup_range
theorem srt_perm (l : List Tri) : (srt l).Perm l := List.mergeSort_perm _ _
theorem pk_perm (h : Hs) (st : List Per) : (pk h st).Perm (((srt (lineOf h.rule st)).map (·.2)).take h.hands.toNat) := by
  unfold pk
  rw [← List.map_take]
  exact sortI_perm _
theorem line_perm (h : Hs) (st : List Per) : ((srt (lineOf h.rule st)).map (·.2)).Perm ((List.range st.length).map fun k : Nat => (k : Int)) := by
  rw [← line_snd h.rule st]
  exact (srt_perm _).map _
theorem pk_nodup (h : Hs) (st : List Per) : (pk h st).Nodup := by
  refine (pk_perm h st).nodup_iff.mpr ?_
  exact ((line_perm h st).nodup_iff.mpr (casts_nodup _)).sublist (List.take_sublist _ _)
theorem pk_mem {h : Hs} {st : List Per} {z : Int} (hz : z ∈ pk h st) : 0 ≤ z ∧ z < (st.length : Int) := by
  have a := List.mem_of_mem_take ((pk_perm h st).mem_iff.mp hz)
  obtain ⟨k, hk, rfl⟩ := List.mem_map.mp ((line_perm h st).mem_iff.mp a)
  have q := List.mem_range.mp hk
  exact ⟨by omega, by omega⟩
theorem pk_len (h : Hs) (st : List Per) : (pk h st).length = min h.hands.toNat st.length := by
  rw [(pk_perm h st).length_eq, List.length_take, (line_perm h st).length_eq, List.length_map, List.length_range]
theorem pk_le (h : Hs) (st : List Per) : (pk h st).length ≤ st.length := by
  rw [pk_len]
  omega
theorem pk_sorted (h : Hs) (st : List Per) : (pk h st).Pairwise (· ≤ ·) := sortI_sorted _

/-! ### counting places -/
theorem countP_or {α : Type} {p q : α → Bool} : ∀ {l : List α}, (∀ a ∈ l, p a = true → q a = true → False) → l.countP (fun a => p a || q a) = l.countP p + l.countP q
  | [], _ => rfl
  | a :: r, h => by
    have ih := countP_or (l := r) fun b hb => h b (List.mem_cons_of_mem _ hb)
    have ha := h a List.mem_cons_self
    rw [List.countP_cons, List.countP_cons, List.countP_cons, ih]
    cases hp : p a <;> cases hq : q a <;> simp [hp, hq] at ha ⊢ <;> omega
theorem count_one {n : Nat} {z : Int} (h0 : 0 ≤ z) (h1 : z < (n : Int)) : (List.range n).countP (fun k : Nat => decide ((k : Int) = z)) = 1 := by
  induction n with
  | zero => omega
  | succ n ih =>
    rw [List.range_succ, List.countP_append, List.countP_singleton]
    by_cases e : (n : Int) = z
    · have q : (List.range n).countP (fun k : Nat => decide ((k : Int) = z)) = 0 := by
        rw [List.countP_eq_zero]
        intro a ha
        have := List.mem_range.mp ha
        simp only [decide_eq_true_eq]
        omega
      rw [q, if_pos (by simpa using e)]
    · rw [ih (by omega), if_neg (by simpa using e)]
theorem count_in {n : Nat} : ∀ {Q : List Int}, Q.Nodup → (∀ z ∈ Q, 0 ≤ z ∧ z < (n : Int)) → (List.range n).countP (fun k : Nat => decide ((k : Int) ∈ Q)) = Q.length
  | [], _, _ => by
    rw [List.countP_eq_zero.mpr]
    · rfl
    · intro a _
      simp
  | z :: Q, hn, hb => by
    have hz := hb z List.mem_cons_self
    have ih := count_in (n := n) (List.nodup_cons.mp hn).2 fun y hy => hb y (List.mem_cons_of_mem _ hy)
    have e : (fun k : Nat => decide ((k : Int) ∈ z :: Q)) = fun k : Nat => decide ((k : Int) = z) || decide ((k : Int) ∈ Q) := by
      funext k
      rw [← Bool.decide_or]
      simp only [List.mem_cons]
    rw [e, countP_or, count_one hz.1 hz.2, ih, List.length_cons]
    · omega
    · intro k _ h1 h2
      simp only [decide_eq_true_eq] at h1 h2
      rw [h1] at h2
      exact (List.nodup_cons.mp hn).1 h2
theorem count_out {n : Nat} {Q : List Int} (hn : Q.Nodup) (hb : ∀ z ∈ Q, 0 ≤ z ∧ z < (n : Int)) : (List.range n).countP (fun k : Nat => !decide ((k : Int) ∈ Q)) + Q.length = n := by
  have a := count_in hn hb
  have b := List.length_eq_countP_add_countP (fun k : Nat => decide ((k : Int) ∈ Q)) (l := List.range n)
  rw [List.length_range, a] at b
  have e : (fun k : Nat => !decide ((k : Int) ∈ Q)) = fun k : Nat => decide (¬ decide ((k : Int) ∈ Q) = true) := by
    funext k
    by_cases q : (k : Int) ∈ Q <;> simp [q]
  rw [e]
  omega
/-- places picked, but not gone -/
theorem count_stay {P G : List Int} (hP : P.Nodup) (hG : G.Nodup) (hs : ∀ z ∈ G, z ∈ P) : P.countP (fun z => !decide (z ∈ G)) + G.length = P.length := by
  have e : P.countP (fun z => decide (z ∈ G)) = G.length := by
    rw [List.countP_eq_length_filter]
    refine List.Perm.length_eq ?_
    refine (List.perm_ext_iff_of_nodup (hP.sublist List.filter_sublist) hG).mpr fun a => ?_
    rw [List.mem_filter]
    simp only [decide_eq_true_eq]
    exact ⟨fun q => q.2, fun q => ⟨hs a q, q⟩⟩
  have b := List.length_eq_countP_add_countP (fun z : Int => decide (z ∈ G)) (l := P)
  have e2 : (fun z : Int => !decide (z ∈ G)) = fun z : Int => decide (¬ decide (z ∈ G) = true) := by
    funext z
    by_cases q : z ∈ G <;> simp [q]
  rw [e2]
  omega

/-! ### the names behind a beat -/
/-- the places of those behind the beat, in the order in which they are named -/
def nbIx (r : Str) (n : Nat) (P G : List Int) : List Nat :=
  if r = "turns" then (List.range n).filter (fun k : Nat => !decide ((k : Int) ∈ P)) ++ (P.filter fun z => !decide (z ∈ G)).map Int.toNat
  else (List.range n).filter fun k : Nat => !decide ((k : Int) ∈ G)
theorem gv_take {α : Type} (P : List Int) (f : Int → Bool) (v : Int → α) : ∀ n, n ≤ P.length →
    gv n (fun j => f (P.getD j 0)) (fun j => v (P.getD j 0)) = ((P.take n).filter f).map v
  | 0, _ => by simp [gv]
  | n + 1, hn => by
    have ih := gv_take P f v n (by omega)
    have e : P[n]? = some (P.getD n 0) := by
      rw [List.getD_eq_getElem?_getD, List.getElem?_eq_getElem (by omega)]
      rfl
    rw [List.take_add_one, e, Option.toList_some, List.filter_append, List.map_append, List.filter_cons, List.filter_nil]
    cases hf : f (P.getD n 0) with
    | true =>
      rw [gv_yes hf, ih]
      rfl
    | false =>
      rw [gv_no hf, ih]
      simp
theorem gv_list {α : Type} (P : List Int) (f : Int → Bool) (v : Int → α) :
    gv P.length (fun j => f (P.getD j 0)) (fun j => v (P.getD j 0)) = (P.filter f).map v := by
  rw [gv_take P f v P.length (Nat.le_refl _), List.take_length]
theorem nb_eq (r : Str) (names : List Nat) (P G : List Int) : nb r names P G = (nbIx r names.length P G).map fun k => names.getD k 0 := by
  unfold nb nbIx
  split
  · rw [List.map_append]
    congr 1
    rw [gv_list P (fun z => !decide (z ∈ G)) (fun z => names.getD z.toNat 0), List.map_map]
    rfl
  · rfl
end Hw

/-! Plain maths, part 2: the follower's rows. -/
namespace Hw
open PySem HwB

section
variable {r : Str} {n : Nat} {P G : List Int}
theorem nbIx_mem (hP : ∀ z ∈ P, 0 ≤ z ∧ z < (n : Int)) (hs : ∀ z ∈ G, z ∈ P) {k : Nat} (hk : k ∈ nbIx r n P G) : k < n ∧ (k : Int) ∉ G := by
  unfold nbIx at hk
  split at hk
  · rcases List.mem_append.mp hk with q | q
    · obtain ⟨a, b⟩ := List.mem_filter.mp q
      refine ⟨List.mem_range.mp a, fun hg => ?_⟩
      rw [decide_eq_true (hs _ hg)] at b
      cases b
    · obtain ⟨z, hz, rfl⟩ := List.mem_map.mp q
      obtain ⟨a, b⟩ := List.mem_filter.mp hz
      have hb := hP z a
      have e : ((z.toNat : Nat) : Int) = z := by omega
      refine ⟨by omega, fun hg => ?_⟩
      rw [e] at hg
      rw [decide_eq_true hg] at b
      cases b
  · obtain ⟨a, b⟩ := List.mem_filter.mp hk
    refine ⟨List.mem_range.mp a, fun hg => ?_⟩
    rw [decide_eq_true hg] at b
    cases b
theorem nbIx_nodup (hn : P.Nodup) (hP : ∀ z ∈ P, 0 ≤ z ∧ z < (n : Int)) : (nbIx r n P G).Nodup := by
  unfold nbIx
  split
  · refine List.nodup_append.mpr ⟨List.nodup_range.sublist List.filter_sublist, ?_, fun a ha b hb e => ?_⟩
    · refine List.pairwise_map.mpr ((hn.sublist List.filter_sublist).imp_of_mem fun {a b} ha hb hab e => hab ?_)
      have h1 := hP a (List.mem_filter.mp ha).1
      have h2 := hP b (List.mem_filter.mp hb).1
      omega
    · subst e
      obtain ⟨z, hz, e⟩ := List.mem_map.mp hb
      obtain ⟨h1, h2⟩ := List.mem_filter.mp ha
      have hz1 := (List.mem_filter.mp hz).1
      have hb2 := hP z hz1
      have e2 : (a : Int) = z := by omega
      rw [e2, decide_eq_true hz1] at h2
      cases h2
  · exact List.nodup_range.sublist List.filter_sublist
theorem nbIx_len (hn : P.Nodup) (hP : ∀ z ∈ P, 0 ≤ z ∧ z < (n : Int)) (hg : G.Nodup) (hs : ∀ z ∈ G, z ∈ P) : (nbIx r n P G).length + G.length = n := by
  unfold nbIx
  split
  · rw [List.length_append, List.length_map, ← List.countP_eq_length_filter, ← List.countP_eq_length_filter]
    have a := count_out hn hP
    have b := count_stay hn hg hs
    omega
  · rw [← List.countP_eq_length_filter]
    exact count_out hg fun z hz => hP z (hs z hz)
end

/-! ### sums over rows -/
def opn (r : Row) : Bool := r.ent && r.gone.isNone
def dur (h : Nat) (r : Row) : Int := if r.ent = true then ((r.gone.getD h : Nat) : Int) - (r.beat : Int) else 0
def dsum (h : Nat) (l : List Row) : Int := (l.map (dur h)).sum
def wsum (l : List Row) : Int := (l.map fun r => (r.wts : Int)).sum
def ents (l : List Row) : Nat := l.countP (·.ent)
def opens (l : List Row) : Nat := l.countP opn

theorem dsum_app (h : Nat) (l m : List Row) : dsum h (l ++ m) = dsum h l + dsum h m := by
  unfold dsum
  rw [List.map_append, List.sum_append]
theorem wsum_app (l m : List Row) : wsum (l ++ m) = wsum l + wsum m := by
  unfold wsum
  rw [List.map_append, List.sum_append]
theorem ents_app (l m : List Row) : ents (l ++ m) = ents l + ents m := List.countP_append
theorem opens_app (l m : List Row) : opens (l ++ m) = opens l + opens m := List.countP_append
theorem dsum_next (h : Nat) : ∀ l : List Row, dsum (h + 1) l = dsum h l + (opens l : Int)
  | [] => rfl
  | r :: l => by
    have ih := dsum_next h l
    have e : dur (h + 1) r = dur h r + (if opn r = true then 1 else 0 : Int) := by
      obtain ⟨b, e, w, g⟩ := r
      cases e <;> cases g <;> simp [dur, opn] <;> omega
    show (dur (h + 1) r :: l.map (dur (h + 1))).sum = (dur h r :: l.map (dur h)).sum + (((r :: l).countP opn : Nat) : Int)
    rw [List.sum_cons, List.sum_cons, List.countP_cons, e]
    unfold dsum opens at ih
    rw [ih]
    split <;> simp_all <;> omega
theorem dsum_shut (h h' : Nat) : ∀ l : List Row, opens l = 0 → dsum h l = dsum h' l
  | [], _ => rfl
  | r :: l, q => by
    unfold opens at q
    rw [List.countP_cons] at q
    have q1 : opn r = false := by
      cases e : opn r with
      | true =>
        rw [e] at q
        simp at q
      | false => rfl
    have ih := dsum_shut h h' l (by
      unfold opens
      omega)
    have e : dur h r = dur h' r := by
      obtain ⟨b, e, w, g⟩ := r
      cases e <;> cases g <;> simp [dur, opn] at q1 ⊢
    unfold dsum at ih ⊢
    rw [List.map_cons, List.map_cons, List.sum_cons, List.sum_cons, e, ih]

theorem getD_some {l : List Row} {nm : Nat} (h : nm < l.length) : l[nm]? = some (l.getD nm r0) := by
  rw [List.getD_eq_getElem?_getD, List.getElem?_eq_getElem h]
  rfl
theorem getD_get {l : List Row} {nm : Nat} (h : nm < l.length) : l[nm] = l.getD nm r0 := by
  rw [List.getD_eq_getElem?_getD, List.getElem?_eq_getElem h]
  rfl
section
variable {l : List Row} {nm : Nat} {x : Row} (h : nm < l.length)
include h
theorem dsum_set (t : Nat) : dsum t (l.set nm x) = dsum t l - dur t (l.getD nm r0) + dur t x := by
  unfold dsum
  rw [List.map_set, L2.sum_set (by rw [List.getElem?_map, getD_some h]; rfl)]
theorem wsum_set : wsum (l.set nm x) = wsum l - ((l.getD nm r0).wts : Int) + (x.wts : Int) := by
  unfold wsum
  rw [List.map_set, L2.sum_set (by rw [List.getElem?_map, getD_some h]; rfl)]
theorem ents_set (e : x.ent = (l.getD nm r0).ent) : ents (l.set nm x) = ents l := by
  unfold ents
  rw [List.countP_set h, getD_get h, e]
  have q : 0 < l.countP (·.ent) ∨ (l.getD nm r0).ent = false := by
    cases z : (l.getD nm r0).ent with
    | true => exact .inl (List.countP_pos_iff.mpr ⟨_, List.mem_of_getElem? (getD_some h), z⟩)
    | false => exact .inr rfl
  split <;> simp_all <;> omega
theorem opens_set_same (e : opn x = opn (l.getD nm r0)) : opens (l.set nm x) = opens l := by
  unfold opens
  rw [List.countP_set h, getD_get h, e]
  have q : 0 < l.countP opn ∨ opn (l.getD nm r0) = false := by
    cases z : opn (l.getD nm r0) with
    | true => exact .inl (List.countP_pos_iff.mpr ⟨_, List.mem_of_getElem? (getD_some h), z⟩)
    | false => exact .inr rfl
  split <;> simp_all <;> omega
theorem opens_set_shut (e : opn (l.getD nm r0) = true) (e2 : opn x = false) : opens (l.set nm x) + 1 = opens l := by
  unfold opens
  rw [List.countP_set h, getD_get h, e, e2]
  have q : 0 < l.countP opn := List.countP_pos_iff.mpr ⟨_, List.mem_of_getElem? (getD_some h), e⟩
  simp
  omega
end
theorem getD_set_self {l : List Row} {nm : Nat} {x : Row} (h : nm < l.length) : (l.set nm x).getD nm r0 = x := by
  rw [List.getD_eq_getElem?_getD, List.getElem?_set_self h]
  rfl
theorem getD_set_ne {l : List Row} {nm j : Nat} {x : Row} (h : nm ≠ j) : (l.set nm x).getD j r0 = l.getD j r0 := by
  rw [List.getD_eq_getElem?_getD, List.getElem?_set_ne h, ← List.getD_eq_getElem?_getD]

/-! ### one beat over the rows -/
/-- what stands when the first k names are done -/
structure UpOk (P G : List Int) (t : Nat) (names : List Nat) (rows : List Row) (k : Nat) : Prop where
  len : (rowsUp P G t names rows k).length = rows.length
  ws : wsum (rowsUp P G t names rows k) = wsum rows + (((List.range k).countP (fun j : Nat => !decide ((j : Int) ∈ P)) : Nat) : Int)
  ds : dsum (t + 1) (rowsUp P G t names rows k) = dsum (t + 1) rows
  es : ents (rowsUp P G t names rows k) = ents rows
  os : opens (rowsUp P G t names rows k) + (List.range k).countP (fun j : Nat => decide ((j : Int) ∈ G)) = opens rows
  op : ∀ i, i < names.length → (k ≤ i ∨ (i : Int) ∉ G) → opn ((rowsUp P G t names rows k).getD (names.getD i 0) r0) = true
  be : ∀ j, ((rowsUp P G t names rows k).getD j r0).beat = (rows.getD j r0).beat ∧ ((rowsUp P G t names rows k).getD j r0).ent = (rows.getD j r0).ent
  un : ∀ j, (∀ i, i < k → names.getD i 0 ≠ j) → (rowsUp P G t names rows k).getD j r0 = rows.getD j r0

theorem up_ok {P G : List Int} {t : Nat} {names : List Nat} {rows : List Row} (nd : names.Nodup) (lt : ∀ nm ∈ names, nm < rows.length) (op : ∀ nm ∈ names, opn (rows.getD nm r0) = true) :
    ∀ k, k ≤ names.length → UpOk P G t names rows k
  | 0, _ => ⟨rfl, by simp [rowsUp], rfl, rfl, by simp [rowsUp], fun i hi _ => op _ (by
      rw [List.getD_eq_getElem?_getD, List.getElem?_eq_getElem hi]
      exact List.getElem_mem hi), fun _ => ⟨rfl, rfl⟩, fun _ _ => rfl⟩
  | k + 1, hk => by
    obtain ⟨ulen, uws, uds, ues, uos, uop, ube, uun⟩ := up_ok (P := P) (G := G) (t := t) nd lt op k (by omega)
    have hk' : k < names.length := by omega
    have mem : names.getD k 0 ∈ names := by
      rw [List.getD_eq_getElem?_getD, List.getElem?_eq_getElem hk']
      exact List.getElem_mem hk'
    have hl : names.getD k 0 < (rowsUp P G t names rows k).length := by
      rw [ulen]
      exact lt _ mem
    have hop := uop k hk' (.inl (Nat.le_refl _))
    have inj : ∀ i, i < names.length → names.getD i 0 = names.getD k 0 → i = k := fun i hi e => by
      rw [List.getD_eq_getElem?_getD, List.getD_eq_getElem?_getD, List.getElem?_eq_getElem hi, List.getElem?_eq_getElem hk'] at e
      exact (List.getElem_inj nd).mp e
    generalize hR : rowsUp P G t names rows k = R at ulen uws uds ues uos uop ube uun hl hop
    generalize hnm : names.getD k 0 = nm at hl hop mem inj
    -- the waits
    have wpart : ∃ A, (if (k : Int) ∈ P then R else bumpW R nm) = A ∧ A.length = R.length ∧ wsum A = wsum R + (if (k : Int) ∈ P then 0 else 1 : Int) ∧ dsum (t + 1) A = dsum (t + 1) R ∧ ents A = ents R ∧ opens A = opens R ∧
        (∀ j, opn (A.getD j r0) = opn (R.getD j r0)) ∧ (∀ j, (A.getD j r0).beat = (R.getD j r0).beat ∧ (A.getD j r0).ent = (R.getD j r0).ent) ∧ ∀ j, nm ≠ j → A.getD j r0 = R.getD j r0 := by
      refine ⟨_, rfl, ?_⟩
      split
      · exact ⟨rfl, by simp, rfl, rfl, rfl, fun _ => rfl, fun _ => ⟨rfl, rfl⟩, fun _ _ => rfl⟩
      · refine ⟨List.length_set .., ?_, ?_, ents_set hl rfl, opens_set_same hl rfl, fun j => ?_, fun j => ?_, fun j hj => getD_set_ne hj⟩
        · unfold bumpW
          rw [wsum_set hl]
          simp only [Int.natCast_add]
          omega
        · unfold bumpW
          rw [dsum_set hl]
          show _ - dur (t + 1) (R.getD nm r0) + dur (t + 1) (R.getD nm r0) = _
          omega
        · by_cases hj : nm = j
          · subst hj
            unfold bumpW
            rw [getD_set_self hl]
            rfl
          · unfold bumpW
            rw [getD_set_ne hj]
        · by_cases hj : nm = j
          · subst hj
            unfold bumpW
            rw [getD_set_self hl]
            exact ⟨rfl, rfl⟩
          · unfold bumpW
            rw [getD_set_ne hj]
            exact ⟨rfl, rfl⟩
    obtain ⟨A, hA, a1, a2, a3, a4, a5, a6, a7, a8⟩ := wpart
    have hlA : nm < A.length := by
      rw [a1]
      exact hl
    have unf : rowsUp P G t names rows (k + 1) = if (k : Int) ∈ G then setG A nm (t + 1) else A := by
      show (if (k : Int) ∈ G then setG (if (k : Int) ∈ P then rowsUp P G t names rows k else bumpW (rowsUp P G t names rows k) (names.getD k 0)) (names.getD k 0) (t + 1)
        else (if (k : Int) ∈ P then rowsUp P G t names rows k else bumpW (rowsUp P G t names rows k) (names.getD k 0))) = _
      rw [hR, hnm, hA]
    have cw : (List.range (k + 1)).countP (fun j : Nat => !decide ((j : Int) ∈ P)) = (List.range k).countP (fun j : Nat => !decide ((j : Int) ∈ P)) + (if (k : Int) ∈ P then 0 else 1) := by
      rw [List.range_succ, List.countP_append, List.countP_singleton]
      by_cases q : (k : Int) ∈ P <;> simp [q]
    have cg : (List.range (k + 1)).countP (fun j : Nat => decide ((j : Int) ∈ G)) = (List.range k).countP (fun j : Nat => decide ((j : Int) ∈ G)) + (if (k : Int) ∈ G then 1 else 0) := by
      rw [List.range_succ, List.countP_append, List.countP_singleton]
      by_cases q : (k : Int) ∈ G <;> simp [q]
    have wsA : wsum A = wsum rows + (((List.range (k + 1)).countP (fun j : Nat => !decide ((j : Int) ∈ P)) : Nat) : Int) := by
      rw [a2, cw, uws]
      split <;> omega
    by_cases hg : (k : Int) ∈ G
    · rw [if_pos hg] at unf cg
      have opA : opn (A.getD nm r0) = true := (a6 nm).trans hop
      have shut : opn { A.getD nm r0 with gone := some (t + 1) } = false := by simp [opn]
      constructor
      · rw [unf]
        unfold setG
        rw [List.length_set, a1, ulen]
      · rw [unf]
        unfold setG
        rw [wsum_set hlA, ← wsA]
        show wsum A - ((A.getD nm r0).wts : Int) + ((A.getD nm r0).wts : Int) = _
        omega
      · rw [unf]
        unfold setG
        rw [dsum_set hlA, a3, uds]
        have e : dur (t + 1) { A.getD nm r0 with gone := some (t + 1) } = dur (t + 1) (A.getD nm r0) := by
          have q := opA
          unfold opn at q
          rw [Bool.and_eq_true, Option.isNone_iff_eq_none] at q
          unfold dur
          rw [q.2]
          rfl
        rw [e]
        omega
      · rw [unf]
        exact (ents_set (x := { A.getD nm r0 with gone := some (t + 1) }) hlA rfl).trans (a4.trans ues)
      · rw [unf, cg]
        unfold setG
        have q := opens_set_shut hlA opA shut
        have q2 := uos
        omega
      · intro i hi hor
        have hik : i ≠ k := by
          intro e
          subst e
          rcases hor with q | q
          · omega
          · exact q hg
        have hne : nm ≠ names.getD i 0 := fun e => hik (inj i hi e.symm)
        rw [unf]
        unfold setG
        rw [getD_set_ne hne, a6]
        refine uop i hi ?_
        rcases hor with q | q
        · exact .inl (by omega)
        · exact .inr q
      · intro j
        rw [unf]
        by_cases hj : nm = j
        · subst hj
          unfold setG
          rw [getD_set_self hlA]
          exact ⟨(a7 nm).1.trans (ube nm).1, (a7 nm).2.trans (ube nm).2⟩
        · unfold setG
          rw [getD_set_ne hj]
          exact ⟨(a7 j).1.trans (ube j).1, (a7 j).2.trans (ube j).2⟩
      · intro j hj
        have hne : nm ≠ j := by
          rw [← hnm]
          exact hj k (Nat.lt_succ_self _)
        rw [unf]
        unfold setG
        rw [getD_set_ne hne, a8 j hne]
        exact uun j fun i hi => hj i (by omega)
    · rw [if_neg hg] at unf cg
      constructor
      · rw [unf, a1, ulen]
      · rw [unf, wsA]
      · rw [unf, a3, uds]
      · rw [unf, a4, ues]
      · rw [unf, cg, a5]
        exact uos
      · intro i hi hor
        rw [unf, a6]
        refine uop i hi ?_
        by_cases hik : i = k
        · exact .inl (by omega)
        · rcases hor with q | q
          · exact .inl (by omega)
          · exact .inr q
      · intro j
        rw [unf]
        exact ⟨(a7 j).1.trans (ube j).1, (a7 j).2.trans (ube j).2⟩
      · intro j hj
        have hne : nm ≠ j := by
          rw [← hnm]
          exact hj k (Nat.lt_succ_self _)
        rw [unf, a8 j hne]
        exact uun j fun i hi => hj i (by omega)
end Hw

/-! Plain maths, part 3: the follower through the beats. -/
namespace Hw
open PySem HwB

/-- f 0 + .. + f (n - 1) -/
def sumTo (f : Nat → Int) : Nat → Int
  | 0 => 0
  | n + 1 => sumTo f n + f n
theorem sumTo_congr {f g : Nat → Int} : ∀ n, (∀ k, k < n → f k = g k) → sumTo f n = sumTo g n
  | 0, _ => rfl
  | n + 1, h => by
    show sumTo f n + f n = sumTo g n + g n
    rw [sumTo_congr n fun k hk => h k (by omega), h n (by omega)]

section
variable (h : Hs) (w : Nat → List Com)
def nIn (k : Nat) : Int := ((Ins h w k).length : Int)
def nUn (k : Nat) : Int := ((Ins h w k).length : Int) - ((pk h (Ins h w k)).length : Int)
def nLet (k : Nat) : Int := ((Ins h w k).length : Int) - ((S h w k).length : Int)

theorem many_le (k : Nat) : (Ins h w k).length - (S h w k).length ≤ (w k).length := by
  have := ins_le h (S h w k) (w k)
  unfold Ins
  omega
theorem in_ge (k : Nat) : (S h w k).length ≤ (Ins h w k).length := ins_ge _ _ _

theorem newRows_opens {t many n : Nat} (hm : many ≤ n) : opens (newRows t many n) = many := by
  unfold opens newRows
  rw [List.countP_map]
  have e : (opn ∘ fun k : Nat => (⟨t, decide (k < many), 0, none⟩ : Row)) = fun k : Nat => decide (k < many) := by
    funext k
    simp [opn]
  rw [e]
  clear e
  induction n with
  | zero =>
    have : many = 0 := by omega
    subst this
    rfl
  | succ n ih =>
    rw [List.range_succ, List.countP_append, List.countP_singleton]
    by_cases q : many ≤ n
    · rw [ih q, if_neg (by simp; omega)]
      rfl
    · have e : many = n + 1 := by omega
      subst e
      have all : (List.range n).countP (fun k => decide (k < n + 1)) = n := by
        have z := List.countP_eq_length (p := fun k => decide (k < n + 1)) (l := List.range n)
        rw [List.length_range] at z
        exact z.mpr fun a ha => by
          have := List.mem_range.mp ha
          simp
          omega
      rw [all]
      simp
theorem newRows_ents {t many n : Nat} (hm : many ≤ n) : ents (newRows t many n) = many := by
  have e : ents (newRows t many n) = opens (newRows t many n) := by
    unfold ents opens newRows
    rw [List.countP_map, List.countP_map]
    congr 1
    funext k
    simp [opn]
  rw [e, newRows_opens hm]
theorem newRows_wsum (t many n : Nat) : wsum (newRows t many n) = 0 := by
  unfold wsum newRows
  rw [List.map_map]
  have e : ∀ l : List Nat, (l.map ((fun r : Row => (r.wts : Int)) ∘ fun k => (⟨t, decide (k < many), 0, none⟩ : Row))).sum = 0 := by
    intro l
    induction l with
    | nil => rfl
    | cons a l ih =>
      rw [List.map_cons, List.sum_cons, ih]
      rfl
  exact e _
theorem newRows_dsum (t many n : Nat) : dsum t (newRows t many n) = 0 := by
  unfold dsum newRows
  rw [List.map_map]
  have e : ∀ l : List Nat, (l.map (dur t ∘ fun k => (⟨t, decide (k < many), 0, none⟩ : Row))).sum = 0 := by
    intro l
    induction l with
    | nil => rfl
    | cons a l ih =>
      rw [List.map_cons, List.sum_cons, ih]
      show dur t ⟨t, decide (a < many), 0, none⟩ + 0 = 0
      unfold dur
      split <;> simp
  exact e _

structure FoOk (t : Nat) (F : Fo) : Prop where
  nd : F.names.Nodup
  len : F.names.length = (S h w t).length
  lt : ∀ nm ∈ F.names, nm < F.rows.length
  op : ∀ nm ∈ F.names, opn (F.rows.getD nm r0) = true
  cnt : opens F.rows = F.names.length
  be : ∀ r ∈ F.rows, r.beat < t
  lo : ∀ r ∈ F.rows, r.ent = false → r.wts = 0 ∧ r.gone = none
  ds : dsum t F.rows = sumTo (nIn h w) t
  ws : wsum F.rows = sumTo (nUn h w) t
  es : (ents F.rows : Int) = sumTo (nLet h w) t

/-- the rows and the names as a beat's loop meets them -/
structure Mid (t : Nat) (names : List Nat) (rows : List Row) : Prop where
  nd : names.Nodup
  len : names.length = (Ins h w t).length
  lt : ∀ nm ∈ names, nm < rows.length
  op : ∀ nm ∈ names, opn (rows.getD nm r0) = true
  cnt : opens rows = names.length
  ds : dsum (t + 1) rows = sumTo (nIn h w) (t + 1)
  ws : wsum rows = sumTo (nUn h w) t
  es : (ents rows : Int) = sumTo (nLet h w) (t + 1)

theorem newRows_len (t many n : Nat) : (newRows t many n).length = n := by
  unfold newRows
  rw [List.length_map, List.length_range]
theorem newNames_len (first many : Nat) : (newNames first many).length = many := by
  unfold newNames
  rw [List.length_map, List.length_range]
theorem newNames_mem {first many nm : Nat} (hm : nm ∈ newNames first many) : first ≤ nm ∧ nm < first + many := by
  unfold newNames at hm
  obtain ⟨k, hk, rfl⟩ := List.mem_map.mp hm
  have := List.mem_range.mp hk
  omega
theorem newRows_get {t many n k : Nat} (hk : k < n) : (newRows t many n).getD k r0 = ⟨t, decide (k < many), 0, none⟩ := by
  unfold newRows
  rw [List.getD_eq_getElem?_getD, List.getElem?_map, List.getElem?_range hk]
  rfl
theorem getD_app_left {l m : List Row} {j : Nat} (hj : j < l.length) : (l ++ m).getD j r0 = l.getD j r0 := by
  rw [List.getD_eq_getElem?_getD, List.getElem?_append_left hj, ← List.getD_eq_getElem?_getD]
theorem getD_app_right {l m : List Row} {j : Nat} (hj : l.length ≤ j) : (l ++ m).getD j r0 = m.getD (j - l.length) r0 := by
  rw [List.getD_eq_getElem?_getD, List.getElem?_append_right hj, ← List.getD_eq_getElem?_getD]
theorem mem_getD {l : List Row} {r : Row} (hr : r ∈ l) : ∃ j, j < l.length ∧ l.getD j r0 = r := by
  obtain ⟨j, hj, e⟩ := List.getElem_of_mem hr
  exact ⟨j, hj, by rw [← getD_get hj]; exact e⟩
theorem getD_mem {l : List Row} {j : Nat} (hj : j < l.length) : l.getD j r0 ∈ l := by
  rw [← getD_get hj]
  exact List.getElem_mem hj

theorem mid_ok {t : Nat} {F : Fo} (I : FoOk h w t F) :
    Mid h w t (F.names ++ newNames F.rows.length ((Ins h w t).length - (S h w t).length)) (F.rows ++ newRows t ((Ins h w t).length - (S h w t).length) (w t).length) := by
  have hm := many_le h w t
  have hge := in_ge h w t
  generalize hM : (Ins h w t).length - (S h w t).length = M at hm
  have opsum : opens (F.rows ++ newRows t M (w t).length) = (Ins h w t).length := by
    rw [opens_app, newRows_opens hm, I.cnt, I.len]
    omega
  constructor
  · refine List.nodup_append.mpr ⟨I.nd, ?_, fun a ha b hb e => ?_⟩
    · unfold newNames
      exact List.Pairwise.map _ (fun a b hab e => hab (by omega)) List.nodup_range
    · have h1 := I.lt a ha
      have h2 := newNames_mem hb
      omega
  · rw [List.length_append, newNames_len, I.len]
    omega
  · intro nm hnm
    rw [List.length_append, newRows_len]
    rcases List.mem_append.mp hnm with q | q
    · have := I.lt nm q
      omega
    · have := newNames_mem q
      omega
  · intro nm hnm
    rcases List.mem_append.mp hnm with q | q
    · rw [getD_app_left (I.lt nm q)]
      exact I.op nm q
    · have b := newNames_mem q
      rw [getD_app_right b.1, newRows_get (by omega)]
      simp [opn]
      omega
  · rw [opsum, List.length_append, newNames_len, I.len]
    omega
  · rw [dsum_next, opsum, dsum_app, newRows_dsum, I.ds]
    show _ = sumTo (nIn h w) t + nIn h w t
    unfold nIn
    omega
  · rw [wsum_app, newRows_wsum, I.ws]
    omega
  · rw [ents_app, newRows_ents hm]
    show _ = sumTo (nLet h w) t + nLet h w t
    rw [← I.es]
    unfold nLet
    omega
theorem gn_sub (t : Nat) : ∀ z ∈ gn h (S h w t) (w t), z ∈ pk h (Ins h w t) := fun z hz => (stepUp_gone _ _ _ _ z hz).1
theorem fo_ok : ∀ t, FoOk h w t (fo h w t)
  | 0 => ⟨List.nodup_nil, rfl, fun _ z => absurd z List.not_mem_nil, fun _ z => absurd z List.not_mem_nil, rfl, fun _ z => absurd z List.not_mem_nil, fun _ z => absurd z List.not_mem_nil, rfl, rfl, rfl⟩
  | t + 1 => by
    have I := fo_ok t
    have M := mid_ok h w I
    generalize hnames : (fo h w t).names ++ newNames (fo h w t).rows.length ((Ins h w t).length - (S h w t).length) = names at M
    generalize hrows : (fo h w t).rows ++ newRows t ((Ins h w t).length - (S h w t).length) (w t).length = rows at M
    have e : fo h w (t + 1) = ⟨nb h.rule names (pk h (Ins h w t)) (gn h (S h w t) (w t)), rowsUp (pk h (Ins h w t)) (gn h (S h w t) (w t)) t names rows names.length⟩ := by
      show foStep h t (S h w t) (w t) (fo h w t) = _
      rw [← hnames, ← hrows]
      rfl
    have pkB : ∀ z ∈ pk h (Ins h w t), 0 ≤ z ∧ z < (names.length : Int) := fun z hz => by
      rw [M.len]
      exact pk_mem hz
    have gB : ∀ z ∈ gn h (S h w t) (w t), 0 ≤ z ∧ z < (names.length : Int) := fun z hz => pkB z (gn_sub h w t z hz)
    have gN : (gn h (S h w t) (w t)).Nodup := stepUp_nodup _ _ _ _
    have U := up_ok (P := pk h (Ins h w t)) (G := gn h (S h w t) (w t)) (t := t) M.nd M.lt M.op names.length (Nat.le_refl _)
    have cP := count_out (n := names.length) (pk_nodup h (Ins h w t)) pkB
    have cG := count_in (n := names.length) gN gB
    have ixm : ∀ k ∈ nbIx h.rule names.length (pk h (Ins h w t)) (gn h (S h w t) (w t)), k < names.length ∧ (k : Int) ∉ gn h (S h w t) (w t) := fun k hk => nbIx_mem pkB (gn_sub h w t) hk
    have ixn := nbIx_nodup (r := h.rule) (G := gn h (S h w t) (w t)) (pk_nodup h (Ins h w t)) pkB
    have ixl := nbIx_len (r := h.rule) (pk_nodup h (Ins h w t)) pkB gN (gn_sub h w t)
    have nmOf : ∀ k, k < names.length → names.getD k 0 ∈ names := fun k hk => by
      rw [List.getD_eq_getElem?_getD, List.getElem?_eq_getElem hk]
      exact List.getElem_mem hk
    have nbm : ∀ nm ∈ nb h.rule names (pk h (Ins h w t)) (gn h (S h w t) (w t)), ∃ k, k < names.length ∧ (k : Int) ∉ gn h (S h w t) (w t) ∧ names.getD k 0 = nm := fun nm hnm => by
      rw [nb_eq] at hnm
      obtain ⟨k, hk, rfl⟩ := List.mem_map.mp hnm
      exact ⟨k, (ixm k hk).1, (ixm k hk).2, rfl⟩
    have nxl := nxt_len h (S h w t) (w t)
    rw [e]
    constructor
    · show (nb h.rule names _ _).Nodup
      rw [nb_eq]
      refine List.pairwise_map.mpr (ixn.imp_of_mem fun {a b} ha hb hab eq => hab ?_)
      have h1 := (ixm a ha).1
      have h2 := (ixm b hb).1
      rw [List.getD_eq_getElem?_getD, List.getD_eq_getElem?_getD, List.getElem?_eq_getElem h1, List.getElem?_eq_getElem h2] at eq
      exact (List.getElem_inj M.nd).mp eq
    · show (nb h.rule names _ _).length = (nxt h (S h w t) (w t)).length
      rw [nb_eq, List.length_map]
      have c := M.len
      have e0 : (Ins h w t).length = (ins h (S h w t) (w t)).length := rfl
      omega
    · intro nm hnm
      obtain ⟨k, hk, -, rfl⟩ := nbm nm hnm
      show _ < (rowsUp _ _ t names rows names.length).length
      rw [U.len]
      exact M.lt _ (nmOf k hk)
    · intro nm hnm
      obtain ⟨k, hk, hkg, rfl⟩ := nbm nm hnm
      exact U.op k hk (.inr hkg)
    · show opens (rowsUp _ _ t names rows names.length) = (nb h.rule names _ _).length
      rw [nb_eq, List.length_map]
      have := U.os
      have c := M.cnt
      omega
    · intro r hr
      obtain ⟨j, hj, rfl⟩ := mem_getD hr
      have hj' : j < (rowsUp (pk h (Ins h w t)) (gn h (S h w t) (w t)) t names rows names.length).length := hj
      rw [U.len] at hj'
      show ((rowsUp _ _ t names rows names.length).getD j r0).beat < t + 1
      rw [(U.be j).1]
      have hm2 := getD_mem hj'
      generalize rows.getD j r0 = r at hm2
      rw [← hrows] at hm2
      rcases List.mem_append.mp hm2 with q | q
      · exact Nat.lt_succ_of_lt (I.be r q)
      · unfold newRows at q
        obtain ⟨k, -, rfl⟩ := List.mem_map.mp q
        exact Nat.lt_succ_self _
    · intro r hr he
      obtain ⟨j, hj, rfl⟩ := mem_getD hr
      have hj' : j < (rowsUp (pk h (Ins h w t)) (gn h (S h w t) (w t)) t names rows names.length).length := hj
      rw [U.len] at hj'
      have he' : ((rowsUp (pk h (Ins h w t)) (gn h (S h w t) (w t)) t names rows names.length).getD j r0).ent = false := he
      rw [(U.be j).2] at he'
      have same := U.un j fun i hi eq => by
        have q := M.op _ (nmOf i hi)
        rw [eq] at q
        unfold opn at q
        rw [he'] at q
        cases q
      show ((rowsUp _ _ t names rows names.length).getD j r0).wts = 0 ∧ ((rowsUp _ _ t names rows names.length).getD j r0).gone = none
      rw [same]
      have hm2 := getD_mem hj'
      generalize rows.getD j r0 = r at hm2 he'
      rw [← hrows] at hm2
      rcases List.mem_append.mp hm2 with q | q
      · exact I.lo r q he'
      · unfold newRows at q
        obtain ⟨k, -, rfl⟩ := List.mem_map.mp q
        exact ⟨rfl, rfl⟩
    · show dsum (t + 1) (rowsUp _ _ t names rows names.length) = _
      rw [U.ds, M.ds]
    · show wsum (rowsUp _ _ t names rows names.length) = sumTo (nUn h w) t + nUn h w t
      rw [U.ws, M.ws]
      have c := M.len
      unfold nUn
      omega
    · show ((ents (rowsUp _ _ t names rows names.length) : Nat) : Int) = _
      rw [U.es, M.es]
end
end Hw

/-! Plain maths, part 4: between two empty moments; the stretches. -/
namespace Hw
open PySem HwB

section
variable (h : Hs) (w : Nat → List Com)

structure Stay (e t : Nat) : Prop where
  le : (fo h w e).rows.length ≤ (fo h w t).rows.length
  same : ∀ j, j < (fo h w e).rows.length → (fo h w t).rows.getD j r0 = (fo h w e).rows.getD j r0
  nm : ∀ nm ∈ (fo h w t).names, (fo h w e).rows.length ≤ nm
  be : ∀ j, (fo h w e).rows.length ≤ j → j < (fo h w t).rows.length → e ≤ ((fo h w t).rows.getD j r0).beat

theorem stay_ok {e : Nat} (he : S h w e = []) : ∀ d, Stay h w e (e + d)
  | 0 => by
    have I := fo_ok h w e
    have e0 : (fo h w e).names = [] := List.eq_nil_of_length_eq_zero (by rw [I.len, he]; rfl)
    refine ⟨Nat.le_refl _, fun _ _ => rfl, fun nm hn => ?_, fun j h1 h2 => absurd h1 (by have h2' : j < (fo h w e).rows.length := h2; omega)⟩
    have hn' : nm ∈ (fo h w e).names := hn
    rw [e0] at hn'
    exact absurd hn' List.not_mem_nil
  | d + 1 => by
    have St := stay_ok he d
    have hbe : e ≤ e + d := Nat.le_add_right _ _
    show Stay h w e ((e + d) + 1)
    generalize e + d = t at St hbe
    have I := fo_ok h w t
    have M := mid_ok h w I
    generalize hnames : (fo h w t).names ++ newNames (fo h w t).rows.length ((Ins h w t).length - (S h w t).length) = names at M
    generalize hrows : (fo h w t).rows ++ newRows t ((Ins h w t).length - (S h w t).length) (w t).length = rows at M
    have ef : fo h w (t + 1) = ⟨nb h.rule names (pk h (Ins h w t)) (gn h (S h w t) (w t)), rowsUp (pk h (Ins h w t)) (gn h (S h w t) (w t)) t names rows names.length⟩ := by
      show foStep h t (S h w t) (w t) (fo h w t) = _
      rw [← hnames, ← hrows]
      rfl
    have pkB : ∀ z ∈ pk h (Ins h w t), 0 ≤ z ∧ z < (names.length : Int) := fun z hz => by
      rw [M.len]
      exact pk_mem hz
    have U := up_ok (P := pk h (Ins h w t)) (G := gn h (S h w t) (w t)) (t := t) M.nd M.lt M.op names.length (Nat.le_refl _)
    have nmOf : ∀ k, k < names.length → names.getD k 0 ∈ names := fun k hk => by
      rw [List.getD_eq_getElem?_getD, List.getElem?_eq_getElem hk]
      exact List.getElem_mem hk
    have nmB : ∀ nm ∈ names, (fo h w e).rows.length ≤ nm := fun nm hn => by
      rw [← hnames] at hn
      rcases List.mem_append.mp hn with q | q
      · exact St.nm nm q
      · have := newNames_mem q
        have := St.le
        omega
    have lrows : rows.length = (fo h w t).rows.length + (w t).length := by
      rw [← hrows, List.length_append, newRows_len]
    have sl := St.le
    refine ⟨?_, fun j hj => ?_, fun nm hn => ?_, fun j h1 h2 => ?_⟩
    · rw [ef]
      show _ ≤ (rowsUp _ _ t names rows names.length).length
      rw [U.len]
      omega
    · rw [ef]
      show (rowsUp _ _ t names rows names.length).getD j r0 = _
      rw [U.un j fun i hi eq => by
        have q := nmB _ (nmOf i hi)
        omega]
      rw [← hrows, getD_app_left (by omega)]
      exact St.same j hj
    · rw [ef] at hn
      have hn' : nm ∈ nb h.rule names (pk h (Ins h w t)) (gn h (S h w t) (w t)) := hn
      rw [nb_eq] at hn'
      obtain ⟨k, hk, rfl⟩ := List.mem_map.mp hn'
      exact nmB _ (nmOf k (nbIx_mem pkB (gn_sub h w t) hk).1)
    · rw [ef] at h2 ⊢
      have h2' : j < (rowsUp (pk h (Ins h w t)) (gn h (S h w t) (w t)) t names rows names.length).length := h2
      rw [U.len] at h2'
      show e ≤ ((rowsUp _ _ t names rows names.length).getD j r0).beat
      rw [(U.be j).1]
      by_cases q : j < (fo h w t).rows.length
      · rw [← hrows, getD_app_left q]
        exact St.be j h1 q
      · rw [← hrows, getD_app_right (by omega), newRows_get (by omega)]
        exact hbe

theorem rows_split {e n : Nat} (he : S h w e = []) (hn : e ≤ n) : ∃ Z, (fo h w n).rows = (fo h w e).rows ++ Z ∧ ∀ r ∈ Z, e ≤ r.beat := by
  obtain ⟨d, rfl⟩ : ∃ d, n = e + d := ⟨n - e, by omega⟩
  obtain ⟨sle, ssame, snm, sbe⟩ := stay_ok h w he d
  generalize fo h w (e + d) = F at sle ssame snm sbe
  refine ⟨F.rows.drop (fo h w e).rows.length, ?_, fun r hr => ?_⟩
  · have a : F.rows.take (fo h w e).rows.length = (fo h w e).rows := by
      refine List.ext_getElem? fun j => ?_
      by_cases hj : j < (fo h w e).rows.length
      · have hj2 : j < F.rows.length := by omega
        rw [List.getElem?_take_of_lt hj, getD_some hj2, getD_some hj, ssame j hj]
      · rw [List.getElem?_eq_none (by rw [List.length_take]; omega), List.getElem?_eq_none (by omega)]
    exact (List.take_append_drop (fo h w e).rows.length F.rows).symm.trans (congrArg (· ++ F.rows.drop (fo h w e).rows.length) a)
  · obtain ⟨j, hj, rfl⟩ := mem_getD hr
    have hj' := hj
    rw [List.length_drop] at hj'
    have e1 : (F.rows.drop (fo h w e).rows.length).getD j r0 = F.rows.getD ((fo h w e).rows.length + j) r0 := by
      rw [List.getD_eq_getElem?_getD, List.getElem?_drop, ← List.getD_eq_getElem?_getD]
    rw [e1]
    exact sbe _ (Nat.le_add_right _ _) (by omega)

def isG (b e : Nat) (r : Row) : Bool := r.ent && r.gone.isSome && (decide (b ≤ r.beat) && decide (r.beat < e))
def life (r : Row) : Int := ((r.gone.getD 0 : Nat) : Int) - (r.beat : Int)
def staysIn (R : List Row) (b e : Nat) : Int := ((R.filter (isG b e)).map life).sum
def waitsIn (R : List Row) (b e : Nat) : Int := ((R.filter (isG b e)).map fun r => (r.wts : Int)).sum
def goneIn (R : List Row) (b e : Nat) : Nat := (R.filter (isG b e)).length

theorem filter_none {R : List Row} {b e : Nat} (hr : ∀ r ∈ R, r.beat < b ∨ e ≤ r.beat) : R.filter (isG b e) = [] := by
  refine List.filter_eq_nil_iff.mpr fun r h q => ?_
  unfold isG at q
  simp only [Bool.and_eq_true, decide_eq_true_eq] at q
  have := hr r h
  omega
theorem in_all {b e : Nat} : ∀ {Y : List Row}, (∀ r ∈ Y, b ≤ r.beat ∧ r.beat < e) → (∀ r ∈ Y, opn r = false) → (∀ r ∈ Y, r.ent = false → r.wts = 0 ∧ r.gone = none) →
    staysIn Y b e = dsum e Y ∧ waitsIn Y b e = wsum Y ∧ goneIn Y b e = ents Y
  | [], _, _, _ => ⟨rfl, rfl, rfl⟩
  | r :: Y, hb, ho, hl => by
    obtain ⟨i1, i2, i3⟩ := in_all (Y := Y) (fun x hx => hb x (List.mem_cons_of_mem _ hx)) (fun x hx => ho x (List.mem_cons_of_mem _ hx)) (fun x hx => hl x (List.mem_cons_of_mem _ hx))
    have b1 := hb r List.mem_cons_self
    have o1 := ho r List.mem_cons_self
    have l1 := hl r List.mem_cons_self
    unfold staysIn waitsIn goneIn at *
    unfold dsum wsum ents at *
    rw [List.filter_cons]
    have dec : (decide (b ≤ r.beat) && decide (r.beat < e)) = true := by
      rw [decide_eq_true b1.1, decide_eq_true b1.2]
      rfl
    cases he : r.ent with
    | false =>
      have q : isG b e r = false := by
        unfold isG
        rw [he]
        rfl
      rw [if_neg (by rw [q]; exact Bool.false_ne_true), i1, i2, i3]
      have w0 := (l1 he).1
      refine ⟨?_, ?_, ?_⟩
      · rw [List.map_cons, List.sum_cons]
        unfold dur
        rw [he]
        simp
      · rw [List.map_cons, List.sum_cons, w0]
        simp
      · rw [List.countP_cons, he]
        simp
    | true =>
      have g1 : r.gone.isSome = true := by
        unfold opn at o1
        rw [he] at o1
        cases hg : r.gone with
        | none =>
          rw [hg] at o1
          cases o1
        | some _ => rfl
      have q : isG b e r = true := by
        unfold isG
        rw [he, g1, dec]
        rfl
      rw [if_pos q]
      refine ⟨?_, ?_, ?_⟩
      · rw [List.map_cons, List.map_cons, List.sum_cons, List.sum_cons, i1]
        unfold dur life
        rw [he, if_pos rfl]
        obtain ⟨m, hm⟩ := Option.isSome_iff_exists.mp g1
        rw [hm]
        rfl
      · rw [List.map_cons, List.map_cons, List.sum_cons, List.sum_cons, i2]
      · rw [List.length_cons, i3, List.countP_cons, he]
        simp
theorem opens_zero {e : Nat} (he : S h w e = []) : opens (fo h w e).rows = 0 := by
  have I := fo_ok h w e
  rw [I.cnt, I.len, he]
  rfl
theorem not_open {l : List Row} (hl : opens l = 0) : ∀ r ∈ l, opn r = false := fun r hr => by
  unfold opens at hl
  have q := List.countP_eq_zero.mp hl r hr
  simpa using q

/-- THE SUMS between two empty moments -/
theorem sums_between {b e n : Nat} (hb : S h w b = []) (he : S h w e = []) (hbe : b ≤ e) (hen : e ≤ n) :
    staysIn (fo h w n).rows b e = sumTo (nIn h w) e - sumTo (nIn h w) b ∧ waitsIn (fo h w n).rows b e = sumTo (nUn h w) e - sumTo (nUn h w) b ∧
    (goneIn (fo h w n).rows b e : Int) = sumTo (nLet h w) e - sumTo (nLet h w) b := by
  obtain ⟨Z, hZ, bZ⟩ := rows_split h w he hen
  obtain ⟨Y, hY, bY⟩ := rows_split h w hb hbe
  have Ie := fo_ok h w e
  have Ib := fo_ok h w b
  have oe := opens_zero h w he
  have ob := opens_zero h w hb
  have oY : opens Y = 0 := by
    rw [hY, opens_app] at oe
    omega
  have fX : (fo h w b).rows.filter (isG b e) = [] := filter_none fun r hr => .inl (Ib.be r hr)
  have fZ : Z.filter (isG b e) = [] := filter_none fun r hr => .inr (bZ r hr)
  have whole : (fo h w n).rows.filter (isG b e) = Y.filter (isG b e) := by
    rw [hZ, hY, List.filter_append, List.filter_append, fX, fZ]
    simp
  have sub : ∀ r ∈ Y, r ∈ (fo h w e).rows := fun r hr => by
    rw [hY]
    exact List.mem_append_right _ hr
  obtain ⟨a1, a2, a3⟩ := in_all (b := b) (e := e) (Y := Y) (fun r hr => ⟨bY r hr, Ie.be r (sub r hr)⟩) (not_open oY) (fun r hr => Ie.lo r (sub r hr))
  have d1 := Ie.ds
  have d2 := Ie.ws
  have d3 := Ie.es
  rw [hY, dsum_app, dsum_shut e b _ ob, Ib.ds] at d1
  rw [hY, wsum_app, Ib.ws] at d2
  rw [hY, ents_app, Int.natCast_add, Ib.es] at d3
  unfold staysIn waitsIn goneIn at *
  rw [whole, a1, a2, a3]
  exact ⟨by omega, by omega, by omega⟩

/-! ### the stretches -/
def isE (k : Nat) : Bool := (S h w k).isEmpty
def cond (k : Nat) : Bool := isE h w k && decide (lostN h (S h w k) (w k) < (w k).length)
def endsOf (n k : Nat) : List Nat := gv (n - k) (fun j => isE h w (k + 1 + j)) (fun j => k + 1 + j)
def begins (n : Nat) : List Nat := (List.range n).filter (cond h w)
variable {h w}
theorem isE_iff {k : Nat} : isE h w k = true ↔ S h w k = [] := List.isEmpty_iff

theorem filter_head {p : Nat → Bool} : ∀ {l : List Nat} {b : Nat} {tl : List Nat}, l.Pairwise (· < ·) → l.filter p = b :: tl →
    p b = true ∧ b ∈ l ∧ (∀ x ∈ l, x < b → p x = false) ∧ tl = l.filter fun x => p x && decide (b < x)
  | [], _, _, _, q => by cases q
  | a :: l, b, tl, hp, q => by
    obtain ⟨hlt, hp2⟩ := List.pairwise_cons.mp hp
    rw [List.filter_cons] at q
    cases pa : p a with
    | true =>
      rw [if_pos pa] at q
      obtain ⟨rfl, rfl⟩ := List.cons.inj q
      refine ⟨pa, List.mem_cons_self, fun x hx hlt2 => ?_, ?_⟩
      · rcases List.mem_cons.mp hx with e | e
        · omega
        · have := hlt x e
          omega
      · rw [List.filter_cons, if_neg (by simp)]
        exact List.filter_congr fun x hx => by rw [decide_eq_true (hlt x hx), Bool.and_true]
    | false =>
      rw [if_neg (by rw [pa]; exact Bool.false_ne_true)] at q
      obtain ⟨h1, h2, h3, h4⟩ := filter_head hp2 q
      refine ⟨h1, List.mem_cons_of_mem _ h2, fun x hx hlt2 => ?_, ?_⟩
      · rcases List.mem_cons.mp hx with e | e
        · rw [e]
          exact pa
        · exact h3 x e hlt2
      · rw [List.filter_cons, if_neg (by rw [pa]; simp)]
        exact h4

theorem ends_head {n k : Nat} (hk : k < n) (hn : S h w n = []) : ∃ e r, endsOf h w n k = e :: r ∧ k < e ∧ e ≤ n ∧ S h w e = [] ∧ ∀ m, k < m → m < e → S h w m ≠ [] := by
  unfold endsOf gv
  have mem : n - k - 1 ∈ (List.range (n - k)).filter fun j => isE h w (k + 1 + j) := by
    refine List.mem_filter.mpr ⟨List.mem_range.mpr (by omega), ?_⟩
    rw [show k + 1 + (n - k - 1) = n by omega]
    exact isE_iff.mpr hn
  cases q : (List.range (n - k)).filter fun j => isE h w (k + 1 + j) with
  | nil =>
    rw [q] at mem
    exact absurd mem List.not_mem_nil
  | cons j r =>
    obtain ⟨h1, h2, h3, -⟩ := filter_head List.pairwise_lt_range q
    refine ⟨k + 1 + j, r.map fun j => k + 1 + j, rfl, by omega, by have := List.mem_range.mp h2; omega, isE_iff.mp h1, fun m hm1 hm2 he => ?_⟩
    have z := h3 (m - k - 1) (List.mem_range.mpr (by have := List.mem_range.mp h2; omega)) (by omega)
    have z' : isE h w (k + 1 + (m - k - 1)) = false := z
    rw [show k + 1 + (m - k - 1) = m by omega, isE_iff.mpr he] at z'
    cases z'

/-- nobody is let in between two stretches -/
theorem gap {last b : Nat} (hl : S h w last = []) (hc : ∀ x, last ≤ x → x < b → cond h w x = false) : ∀ d, last + d ≤ b → S h w (last + d) = [] ∧ sumTo (nLet h w) (last + d) = sumTo (nLet h w) last
  | 0, _ => ⟨hl, rfl⟩
  | d + 1, hd => by
    obtain ⟨i1, i2⟩ := gap hl hc d (by omega)
    have c := hc (last + d) (by omega) (by omega)
    unfold cond at c
    rw [isE_iff.mpr i1, Bool.true_and, decide_eq_false_iff_not] at c
    have il := ins_len h (S h w (last + d)) (w (last + d))
    have e0 : (S h w (last + d)).length = 0 := by
      rw [i1]
      rfl
    have li : (ins h (S h w (last + d)) (w (last + d))).length = 0 := by omega
    have nl := nxt_len h (S h w (last + d)) (w (last + d))
    refine ⟨?_, ?_⟩
    · show nxt h (S h w (last + d)) (w (last + d)) = []
      exact List.eq_nil_of_length_eq_zero (by omega)
    · show sumTo (nLet h w) (last + d) + nLet h w (last + d) = _
      rw [i2]
      have z : nLet h w (last + d) = 0 := by
        show ((ins h (S h w (last + d)) (w (last + d))).length : Int) - ((S h w (last + d)).length : Int) = 0
        omega
      rw [z]
      omega

/-- ahead of stretch j the last one ended at last -/
structure At (h : Hs) (w : Nat → List Com) (n j last : Nat) : Prop where
  e : S h w last = []
  le : last ≤ n
  dr : (begins h w n).drop j = (List.range n).filter fun x => cond h w x && decide (last ≤ x)
theorem at_zero (h : Hs) (w : Nat → List Com) (n : Nat) : At h w n 0 0 := by
  refine ⟨rfl, Nat.zero_le _, ?_⟩
  rw [List.drop_zero]
  unfold begins
  exact List.filter_congr fun x _ => by simp
theorem at_next {n j last b : Nat} (A : At h w n j last) (hn : S h w n = []) (hb : (begins h w n)[j]? = some b) :
    ∃ e r, endsOf h w n b = e :: r ∧ last ≤ b ∧ b < e ∧ e ≤ n ∧ S h w b = [] ∧ S h w e = [] ∧ sumTo (nLet h w) b = sumTo (nLet h w) last ∧ At h w n (j + 1) e := by
  have dj : (begins h w n).drop j = b :: (begins h w n).drop (j + 1) := by
    have hj := (List.getElem?_eq_some_iff.mp hb).1
    rw [List.drop_eq_getElem_cons hj, (List.getElem?_eq_some_iff.mp hb).2]
  obtain ⟨p1, p2, p3, p4⟩ := filter_head List.pairwise_lt_range (A.dr.symm.trans dj)
  have p1' : (cond h w b && decide (last ≤ b)) = true := p1
  rw [Bool.and_eq_true, decide_eq_true_eq] at p1'
  have hbn := List.mem_range.mp p2
  obtain ⟨e, r, h1, h2, h3, h4, h5⟩ := ends_head hbn hn
  have cb : S h w b = [] := by
    have q := p1'.1
    unfold cond at q
    rw [Bool.and_eq_true] at q
    exact isE_iff.mp q.1
  have hc : ∀ x, last ≤ x → x < b → cond h w x = false := fun x hx hxb => by
    have q : (cond h w x && decide (last ≤ x)) = false := p3 x (List.mem_range.mpr (by omega)) hxb
    rw [decide_eq_true hx, Bool.and_true] at q
    exact q
  obtain ⟨-, g2⟩ := gap A.e hc (b - last) (by omega)
  rw [show last + (b - last) = b by omega] at g2
  refine ⟨e, r, h1, p1'.2, h2, h3, cb, h4, g2, h4, h3, ?_⟩
  rw [p4]
  refine List.filter_congr fun x _ => ?_
  show ((cond h w x && decide (last ≤ x)) && decide (b < x)) = (cond h w x && decide (e ≤ x))
  cases cx : cond h w x with
  | false => rfl
  | true =>
    have sx : S h w x = [] := by
      unfold cond at cx
      rw [Bool.and_eq_true] at cx
      exact isE_iff.mp cx.1
    rw [Bool.true_and, Bool.true_and, ← Bool.decide_and]
    refine decide_eq_decide.mpr ⟨fun q => ?_, fun q => ⟨by omega, by omega⟩⟩
    refine Nat.le_of_not_lt fun hlt => h5 x q.2 hlt sx
theorem at_end {n last : Nat} (A : At h w n (begins h w n).length last) : sumTo (nLet h w) n = sumTo (nLet h w) last := by
  have d := A.dr
  rw [List.drop_length] at d
  have hc : ∀ x, last ≤ x → x < n → cond h w x = false := fun x hx hxn => by
    have q := List.filter_eq_nil_iff.mp d.symm x (List.mem_range.mpr hxn)
    rw [decide_eq_true hx, Bool.and_true] at q
    simpa using q
  have := A.le
  obtain ⟨-, g2⟩ := gap A.e hc (n - last) (by omega)
  rw [show last + (n - last) = n by omega] at g2
  exact g2
end
end Hw

/-! Plain maths, part 5: how many are in the house, how much work is left. -/
namespace Hw
open PySem HwB

def manyTo (w : Nat → List Com) : Nat → Nat
  | 0 => 0
  | t + 1 => manyTo w t + (w t).length
theorem manyTo_le {w : Nat → List Com} {a b : Nat} (h : a ≤ b) : manyTo w a ≤ manyTo w b := by
  obtain ⟨d, rfl⟩ : ∃ d, b = a + d := ⟨b - a, by omega⟩
  clear h
  induction d with
  | zero => exact Nat.le_refl _
  | succ d ih =>
    show _ ≤ manyTo w (a + d) + _
    omega
theorem nxt_le (h : Hs) (st : List Per) (b : List Com) : (nxt h st b).length ≤ st.length + b.length := by
  have a := nxt_len h st b
  have c := ins_le h st b
  omega
theorem S_len (h : Hs) (w : Nat → List Com) : ∀ t, (S h w t).length ≤ manyTo w t
  | 0 => Nat.le_refl _
  | t + 1 => by
    have ih := S_len h w t
    have a := nxt_le h (S h w t) (w t)
    show (nxt h (S h w t) (w t)).length ≤ manyTo w t + (w t).length
    omega
theorem Ins_len (h : Hs) (w : Nat → List Com) (t : Nat) : (Ins h w t).length ≤ manyTo w (t + 1) := by
  have ih := S_len h w t
  have a := ins_le h (S h w t) (w t)
  show (ins h (S h w t) (w t)).length ≤ manyTo w t + (w t).length
  omega

def wk (st : List Per) : Nat := (st.map (·.left.toNat)).sum
def wkB (b : List Com) : Nat := (b.map (·.2.toNat)).sum
def posS (st : List Per) : Prop := ∀ p ∈ st, 1 ≤ p.left
theorem wk_app (a b : List Per) : wk (a ++ b) = wk a + wk b := by
  unfold wk
  rw [List.map_append, List.sum_append]
theorem wk_one (p : Per) : wk [p] = p.left.toNat := by simp [wk]
theorem posS_app {a b : List Per} (h1 : posS a) (h2 : posS b) : posS (a ++ b) := fun p hp => (List.mem_append.mp hp).elim (h1 p) (h2 p)
theorem posS_one {p : Per} (h : 1 ≤ p.left) : posS [p] := fun q hq => by
  rw [List.mem_singleton.mp hq]
  exact h
theorem wk_zero {st : List Per} (hp : posS st) (h : wk st = 0) : st = [] := by
  cases st with
  | nil => rfl
  | cons p r =>
    have a := hp p List.mem_cons_self
    unfold wk at h
    rw [List.map_cons, List.sum_cons] at h
    omega
theorem letUp_work (pl : Option Int) (st : List Per) (b : List Com) (hp : posS st) (hb : ∀ c ∈ b, 1 ≤ c.2) : ∀ i, i ≤ b.length →
    posS (letUp pl st b i).1 ∧ wk (letUp pl st b i).1 ≤ wk st + wkB (b.take i)
  | 0, _ => ⟨hp, by simp [letUp, wkB]⟩
  | i + 1, hi => by
    obtain ⟨h1, h2⟩ := letUp_work pl st b hp hb i (by omega)
    have e : b[i]? = some (b.getD i c0) := by
      rw [List.getD_eq_getElem?_getD, List.getElem?_eq_getElem (by omega)]
      rfl
    have hc : 1 ≤ (b.getD i c0).2 := hb _ (List.mem_of_getElem? e)
    have tk : wkB (b.take (i + 1)) = wkB (b.take i) + (b.getD i c0).2.toNat := by
      unfold wkB
      rw [List.take_add_one, e, Option.toList_some, List.map_append, List.sum_append]
      simp
    unfold letUp
    split
    · refine ⟨posS_app h1 (posS_one hc), ?_⟩
      show wk ((letUp pl st b i).1 ++ _) ≤ _
      rw [wk_app, wk_one, tk]
      show _ + (b.getD i c0).2.toNat ≤ _
      omega
    · exact ⟨h1, by show wk (letUp pl st b i).1 ≤ _; omega⟩
theorem ins_work {h : Hs} {st : List Per} {b : List Com} (hp : posS st) (hb : ∀ c ∈ b, 1 ≤ c.2) : posS (ins h st b) ∧ wk (ins h st b) ≤ wk st + wkB b := by
  have q := letUp_work h.places st b hp hb b.length (Nat.le_refl _)
  rw [List.take_length] at q
  exact q
theorem stepUp_work (r : Str) (P : List Int) (l : List Per) (hp : posS l) : ∀ k, k ≤ l.length →
    posS (stepUp r P l k).kept ∧ posS (stepUp r P l k).beh ∧
    wk (stepUp r P l k).kept + wk (stepUp r P l k).beh + (List.range k).countP (fun j : Nat => decide ((j : Int) ∈ P)) = wk (l.take k)
  | 0, _ => ⟨fun _ h => absurd h List.not_mem_nil, fun _ h => absurd h List.not_mem_nil, rfl⟩
  | k + 1, hk => by
    obtain ⟨h1, h2, h3⟩ := stepUp_work r P l hp k (by omega)
    have e : l[k]? = some (l.getD k p0) := by
      rw [List.getD_eq_getElem?_getD, List.getElem?_eq_getElem (by omega)]
      rfl
    have hc : 1 ≤ (l.getD k p0).left := hp _ (List.mem_of_getElem? e)
    have tk : wk (l.take (k + 1)) = wk (l.take k) + (l.getD k p0).left.toNat := by
      rw [List.take_add_one, e, Option.toList_some, wk_app, wk_one]
    have cg : (List.range (k + 1)).countP (fun j : Nat => decide ((j : Int) ∈ P)) = (List.range k).countP (fun j : Nat => decide ((j : Int) ∈ P)) + (if (k : Int) ∈ P then 1 else 0) := by
      rw [List.range_succ, List.countP_append, List.countP_singleton]
      by_cases q : (k : Int) ∈ P <;> simp [q]
    rw [cg, tk]
    unfold stepUp
    split
    · rename_i hin
      split
      · rename_i h1'
        refine ⟨h1, h2, ?_⟩
        show wk (stepUp r P l k).kept + wk (stepUp r P l k).beh + _ = _
        rw [h1']
        have : (1 : Int).toNat = 1 := rfl
        omega
      · rename_i hne
        have h2' : 1 ≤ (l.getD k p0).left - 1 := by omega
        have t2 : ((l.getD k p0).left - 1).toNat + 1 = (l.getD k p0).left.toNat := by omega
        split
        · refine ⟨h1, posS_app h2 (posS_one h2'), ?_⟩
          show wk (stepUp r P l k).kept + wk ((stepUp r P l k).beh ++ _) + _ = _
          rw [wk_app, wk_one]
          show _ + (_ + ((l.getD k p0).left - 1).toNat) + _ = _
          omega
        · refine ⟨posS_app h1 (posS_one h2'), h2, ?_⟩
          show wk ((stepUp r P l k).kept ++ _) + wk (stepUp r P l k).beh + _ = _
          rw [wk_app, wk_one]
          show _ + ((l.getD k p0).left - 1).toNat + _ + _ = _
          omega
    · refine ⟨posS_app h1 (posS_one hc), h2, ?_⟩
      show wk ((stepUp r P l k).kept ++ _) + wk (stepUp r P l k).beh + _ = _
      rw [wk_app, wk_one]
      omega
theorem nxt_work {h : Hs} {st : List Per} {b : List Com} (hp : posS (ins h st b)) : posS (nxt h st b) ∧ wk (nxt h st b) + (pk h (ins h st b)).length = wk (ins h st b) := by
  obtain ⟨h1, h2, h3⟩ := stepUp_work h.rule (pk h (ins h st b)) (ins h st b) hp (ins h st b).length (Nat.le_refl _)
  rw [List.take_length, count_in (pk_nodup h _) fun z hz => pk_mem hz] at h3
  refine ⟨posS_app h1 h2, ?_⟩
  unfold nxt st3
  rw [wk_app]
  exact h3
def workTo (w : Nat → List Com) : Nat → Nat
  | 0 => 0
  | t + 1 => workTo w t + wkB (w t)
theorem S_work {h : Hs} {w : Nat → List Com} (hw : ∀ k, ∀ c ∈ w k, 1 ≤ c.2) : ∀ t, posS (S h w t) ∧ wk (S h w t) ≤ workTo w t
  | 0 => ⟨fun _ q => absurd q List.not_mem_nil, Nat.le_refl _⟩
  | t + 1 => by
    obtain ⟨h1, h2⟩ := S_work (h := h) hw t
    obtain ⟨i1, i2⟩ := ins_work (h := h) h1 (hw t)
    obtain ⟨n1, n2⟩ := nxt_work i1
    refine ⟨n1, ?_⟩
    show wk (nxt h (S h w t) (w t)) ≤ workTo w t + wkB (w t)
    omega
/-- a void beat: less work, where there is any -/
theorem void_less {h : Hs} {st : List Per} (hh : 1 ≤ h.hands) (hp : posS st) (hne : st ≠ []) : wk (nxt h st []) + 1 ≤ wk st := by
  have e : ins h st [] = st := rfl
  have hp' : posS (ins h st []) := hp
  obtain ⟨-, n2⟩ := nxt_work hp'
  rw [e, pk_len] at n2
  have l1 : 1 ≤ st.length := by
    cases st with
    | nil => exact absurd rfl hne
    | cons a r => simp
  omega
end Hw

/-! The text by places, the data on the heap, calls of defs by name. -/
namespace Hw
open PySem HwB L2

/-! ### the text -/
def topS (i : Nat) : Stmt := PySem.Challenge.pw_hatchwaits_k24_whole_stays_are_numbers_i.main.body.getD i (.Pass ⟨0, 0, 0, 0⟩)
abbrev sKeeps : Stmt := topS 2
abbrev sLetIn : Stmt := topS 4
abbrev sTurnOf : Stmt := topS 5
abbrev sPicked : Stmt := topS 6
abbrev sStep : Stmt := topS 7
abbrev sRun : Stmt := topS 9
abbrev sNames : Stmt := topS 10
abbrev sInit : Stmt := inClass (topS 11) 0
abbrev sTake : Stmt := inClass (topS 11) 1
abbrev sCourse : Stmt := inClass (topS 11) 2
abbrev sCourses : Stmt := topS 12
abbrev sDrained : Stmt := topS 13
abbrev sBusy : Stmt := topS 15
abbrev sSums : Stmt := topS 16
abbrev sFeed : Stmt := topS 18
abbrev sNext : Stmt := topS 19
abbrev sRule : Stmt := topS 20
abbrev sHouse : Stmt := topS 21
abbrev sWay : Stmt := topS 22
abbrev sLight : Stmt := topS 23
abbrev sBoth : Stmt := topS 24
abbrev sLaw : Stmt := topS 25

/-! ### heaps that keep -/
/-- tuples stand for ever -/
def TK (H H' : Hp) : Prop := ∀ b xs, H b = some (.tup xs) → H' b = some (.tup xs)
theorem TK.refl (H : Hp) : TK H H := fun _ _ h => h
theorem TK.trans {H H1 H2 : Hp} (a : TK H H1) (b : TK H1 H2) : TK H H2 := fun c o h => b c o (a c o h)
theorem _root_.L2.Same.tk {H H' : Hp} (s : Same H H') : TK H H' := fun b xs h => s b _ h
theorem same_new {H : Hp} {p : Addr} {o : HO} (h : H p = none) : Same H (upd H p o) := fun b u e => by
  rw [upd_ne (ne_of_none e h)]
  exact e
theorem same_mut {H0 H : Hp} {p : Addr} {o : HO} (s : Same H0 H) (h : H0 p = none) : Same H0 (upd H p o) := fun b u e => by
  rw [upd_ne (ne_of_none e h)]
  exact s b u e
theorem tk_lst {H : Hp} {p : Addr} {xs : List V} {o : HO} (h : H p = some (.lst xs)) : TK H (upd H p o) := fun b ys e => by
  rw [upd_ne (ne_of e h (by intro q; cases q))]
  exact e
theorem tk_ins {H : Hp} {p C dx : Addr} {fs : List (Str × V)} {o : HO} (h : H p = some (.ins C dx fs)) : TK H (upd H p o) := fun b ys e => by
  rw [upd_ne (ne_of e h (by intro q; cases q))]
  exact e

/-! ### data on the heap -/
theorem pair_get {α β : Type} {R : α → β → Prop} : ∀ {xs : List α} {l : List β} {i : Nat} {x : α}, Paired R xs l → xs[i]? = some x → ∃ y, l[i]? = some y ∧ R x y
  | _, _, _, _, .nil, e => by simp at e
  | _, _, 0, _, .cons r _, e => by
    cases Option.some.inj e
    exact ⟨_, rfl, r⟩
  | _, _, i + 1, _, .cons _ t, e => pair_get (i := i) t e
theorem pair_get' {α β : Type} {R : α → β → Prop} : ∀ {xs : List α} {l : List β} {i : Nat} {y : β}, Paired R xs l → l[i]? = some y → ∃ x, xs[i]? = some x ∧ R x y
  | _, _, _, _, .nil, e => by simp at e
  | _, _, 0, _, .cons r _, e => by
    cases Option.some.inj e
    exact ⟨_, rfl, r⟩
  | _, _, i + 1, _, .cons _ t, e => pair_get' (i := i) t e
theorem pair_mono {α β : Type} {R R' : α → β → Prop} (h : ∀ x y, R x y → R' x y) {xs : List α} {l : List β} (p : Paired R xs l) : Paired R' xs l := by
  induction p with
  | nil => exact .nil
  | cons r _ ih => exact .cons (h _ _ r) ih
theorem pair_app {α β : Type} {R : α → β → Prop} : ∀ {xs ys : List α} {l m : List β}, Paired R xs l → Paired R ys m → Paired R (xs ++ ys) (l ++ m)
  | _, _, _, _, .nil, q => q
  | _, _, _, _, .cons r t, q => .cons r (pair_app t q)
theorem pair_map {α β γ : Type} {R : α → β → Prop} {f : γ → β} {g : γ → α} (h : ∀ c, R (g c) (f c)) : ∀ l : List γ, Paired R (l.map g) (l.map f)
  | [] => .nil
  | c :: r => .cons (h c) (pair_map h r)

def isPer (H : Hp) (v : V) (p : Per) : Prop := ∃ a, v = .ref a ∧ H a = some (.tup [.int p.rank, .int p.left, .bl p.bg])
def isCom (H : Hp) (v : V) (c : Com) : Prop := ∃ a, v = .ref a ∧ H a = some (.tup [.int c.1, .int c.2])
def isTup {α : Type} (R : Hp → V → α → Prop) (H : Hp) (v : V) (l : List α) : Prop := ∃ a xs, v = .ref a ∧ H a = some (.tup xs) ∧ Paired (R H) xs l
def isSt : Hp → V → List Per → Prop := isTup isPer
def isBt : Hp → V → List Com → Prop := isTup isCom
def isWay : Hp → V → List (List Com) → Prop := isTup isBt
def plV : Option Int → V
  | none => .non
  | some k => .int k
def isHs (H : Hp) (v : V) (h : Hs) : Prop := ∃ a, v = .ref a ∧ H a = some (.tup [.int h.hands, plV h.places, .str h.rule])
/-- a tuple of whole numbers -/
def isInts (H : Hp) (v : V) (l : List Int) : Prop := ∃ a, v = .ref a ∧ H a = some (.tup (l.map V.int))

section
variable {H H' : Hp} (k : TK H H')
include k
theorem isPer_up {v : V} {p : Per} : isPer H v p → isPer H' v p := fun ⟨a, e, h⟩ => ⟨a, e, k _ _ h⟩
theorem isCom_up {v : V} {c : Com} : isCom H v c → isCom H' v c := fun ⟨a, e, h⟩ => ⟨a, e, k _ _ h⟩
theorem isTup_up {α : Type} {R : Hp → V → α → Prop} (hR : ∀ v x, R H v x → R H' v x) {v : V} {l : List α} : isTup R H v l → isTup R H' v l :=
  fun ⟨a, xs, e, h, p⟩ => ⟨a, xs, e, k _ _ h, pair_mono hR p⟩
theorem isSt_up {v : V} {l : List Per} : isSt H v l → isSt H' v l := isTup_up k fun _ _ => isPer_up k
theorem isBt_up {v : V} {l : List Com} : isBt H v l → isBt H' v l := isTup_up k fun _ _ => isCom_up k
theorem isWay_up {v : V} {l : List (List Com)} : isWay H v l → isWay H' v l := isTup_up k fun _ _ => isBt_up k
theorem isHs_up {v : V} {h : Hs} : isHs H v h → isHs H' v h := fun ⟨a, e, q⟩ => ⟨a, e, k _ _ q⟩
theorem isInts_up {v : V} {l : List Int} : isInts H v l → isInts H' v l := fun ⟨a, e, q⟩ => ⟨a, e, k _ _ q⟩
end

/-! ### calls by name -/
structure Has (P : Program) (w : World) (K : PySem.W.Frag) (mg : Str → Option Value) (base : Heap) (x : Str) (k : Nat) (ps : List Str) (sp : Sp) : Prop where
  ex : ∃ f fd, FnOk P w K mg base CX0 k f fd ps sp ∧ mg x = some (.ref f) ∧ PySem.W.keepIn K (.ref f) = true ∧ Binds K fd ps []
theorem pe_has {X : Cx} {x : Str} {k : Nat} {ps : List Str} {sp : Sp} {p pos : Pos} {e : Expr} {es : List Expr} {t : TA} (C : Has X.prog X.w X.K X.mg X.base x k ps sp) (hr : Room k X.A) (ha : PA X (e :: es) t) (hg : Gl X x := by rfl)
    (hdb : (x == ("__debug__" : Str)) = false := by decide) (he : starEach (e :: es) X.env = (false, eval e X.env) :: starEach es X.env := by rfl) (hpl : (backTo pos (starEach es X.env)).any (·.1) = false := by rfl) :
    PE X (.Call (.Name x p) (e :: es) [] pos) (tCall sp [] E0 t) := by
  obtain ⟨f, fd, F, hm, hk, hb⟩ := C.ex
  exact pe_call F hr hg hm hk hb .nil pass0 ha hdb he hpl
/-- a test whose answer is told at once -/
def tJoin (t : TT) : TT := fun σ H Q => ∃ (b : Bool) (R : Hp → Prop), t σ H (fun c H1 => c = b ∧ R H1) ∧ ∀ H1, R H1 → Q b H1
theorem pt_join {X : Cx} {e : Expr} {t : TT} (h : PT X e t) : PT X e (tJoin t) := ⟨fun pins s σ H Q I q => by
  obtain ⟨b, R, q1, q2⟩ := q
  refine thn (h.run pins s σ H _ I q1) fun c s1 ⟨H1, I1, e1, r1⟩ => ⟨H1, I1, ?_⟩
  rw [e1]
  exact q2 H1 r1⟩
/-- a value of which something is told -/
def tSay (t : TE) : TE := fun σ H Q => ∃ R : V → Hp → Prop, t σ H R ∧ ∀ v H1, R v H1 → Q v H1
theorem pe_say {X : Cx} {e : Expr} {t : TE} (h : PE X e t) : PE X e (tSay t) := ⟨fun pins s σ H Q I q => by
  obtain ⟨R, q1, q2⟩ := q
  exact thn (h.run pins s σ H _ I q1) fun v s1 ⟨x, H1, I1, r1, z⟩ => ⟨x, H1, I1, r1, q2 x H1 z⟩⟩
/-- a statement behind which something is told -/
def tMid (t : TS) : TS := fun D σ H => ∃ Mid : L2.St → Hp → Prop, t { D with nx := Mid } σ H ∧ ∀ σ' H', Mid σ' H' → D.nx σ' H'
theorem ps_mid {X : Cx} {st : Stmt} {t : TS} (h : PS X st t) : PS X st (tMid t) := ⟨fun pins s σ H D I q => by
  obtain ⟨Mid, q1, q2⟩ := q
  refine thn (h.run pins s σ H { D with nx := Mid } I q1) fun f s1 z => ?_
  cases f with
  | next =>
    obtain ⟨σ', H', I', z⟩ := z
    exact ⟨σ', H', I', q2 _ _ z⟩
  | brk => exact z
  | cont => exact z
  | ret v => exact z⟩
def rLenK (K : PySem.W.Frag) : List V → Hp → VK → Prop := fun xs H Q => ∃ p ys, xs = [.ref p] ∧ (SqL K H p ys ∨ SqT K H p ys) ∧ Q (.int ys.length) H
/-- the built-in names stand -/
structure Blt (mg : Str → Option Value) : Prop where
  len : mg "len" = none
  list : mg "list" = none
  tuple : mg "tuple" = none
  sorted : mg "sorted" = none
  range : mg "range" = none
  enumerate : mg "enumerate" = none
  int : mg "int" = none
  sum : mg "sum" = none
  max : mg "max" = none
  repr : mg "repr" = none

section
variable {P : Program} {w : World} {K : PySem.W.Frag} {mg : Str → Option Value} {base : Heap}
/-! ### keeps -/
def spKeeps : Sp := fun vs H Q _ => ∃ r, vs = [.str r] ∧ Q (.bl (keepsB r)) H
theorem scKeeps : FnScope ["rule"] ["rule"] (defScope sKeeps) := ⟨rfl, rfl, rfl, by decide +kernel, rfl, by decide +kernel, by decide +kernel⟩
abbrev keepV : List V := [.str "first", .str "last", .str "short", .str "front"]
theorem inV_keep (r : Str) : inV (.str r) keepV = keepsB r := by
  show ((("first" : Str) == r) || ((("last" : Str) == r) || ((("short" : Str) == r) || ((("front" : Str) == r) || false)))) = keepsB r
  unfold keepsB
  rw [Bool.eq_iff_iff]
  simp only [Bool.or_eq_true, beq_iff_eq, decide_eq_true_eq, Bool.or_false]
  constructor
  · rintro (h | h | h | h) <;> simp [← h]
  · rintro (h | h | h | h) <;> simp [h]
theorem ok_keeps {f aK : Addr} {fd : FuncData} (F : Fun K "keeps" "keeps" sKeeps f fd) (mK : mg "KEEPING" = some (.ref aK)) (hK : SqT K (fun _ => none) aK keepV) : FnOk P w K mg base CX0 1 f fd ["rule"] spKeeps := by
  refine F.ok scKeeps (fun vs H Q E h => ?_) (fun cdv A outer s H vs Q E hr h => ?_)
  · obtain ⟨r, rfl, _⟩ := h
    rfl
  · obtain ⟨r, rfl, q⟩ := h
    refine ⟨_, pss_one (ps_ret (pe_cmpR op_in_seq (pv 0) (pe_glob (v := .ref aK) rfl mK rfl) (by rfl))), ?_⟩
    have hK' : SqT K H aK keepV := by
      rcases hK with (h | ⟨o, h⟩) | h
      · cases h
      · cases h
      · exact .inr h
    refine ⟨_, rfl, aK, _, rfl, .inr hK', rfl, rfl, ?_⟩
    show Q (.bl (inV (.str r) keepV)) H
    rw [inV_keep]
    exact q

/-! ### let_in -/
/-- a pair: a stand, a number -/
def isSN (H : Hp) (v : V) (l : List Per) (n : Int) : Prop := ∃ a x, v = .ref a ∧ H a = some (.tup [x, .int n]) ∧ isSt H x l
def spLetIn : Sp := fun vs H Q _ => ∃ (h : Hs) (st : List Per) (b : List Com) (vh vst vb : V), vs = [vh, vst, vb] ∧ isHs H vh h ∧ isSt H vst st ∧ isBt H vb b ∧ st.length + b.length ≤ 10000 ∧
  ∀ v H', Same H H' → isSN H' v (ins h st b) (lostN h st b : Nat) → Q v H'
theorem scLetIn : FnScope ["house", "stand", "beat", "places", "inside", "lost", "rank", "work"] ["house", "stand", "beat"] (defScope sLetIn) := ⟨rfl, rfl, rfl, by decide +kernel, rfl, by decide +kernel, by decide +kernel⟩
theorem ok_letIn {f : Addr} {fd : FuncData} (F : Fun K "let_in" "let_in" sLetIn f fd) (T : Blt mg) : FnOk P w K mg base CX0 1 f fd ["house", "stand", "beat"] spLetIn := by
  refine F.ok scLetIn (fun vs H Q E h => ?_) (fun cdv A outer s H vs Q E hr h => ?_)
  · obtain ⟨h, st, b, vh, vst, vb, rfl, _⟩ := h
    rfl
  · obtain ⟨h, st, b, vh, vst, vb, rfl, ⟨ah, rfl, hh⟩, ⟨as, sxs, rfl, hs, ps⟩, ⟨ab, bxs, rfl, hb, pb⟩, hlen, q⟩ := h
    refine ⟨_, pss_cons (ps_set (i := 3) scLetIn.nd rfl (.inl rfl) (pe_ix ix_tup (pv 0) pe_int (fun _ _ => rfl)))
      (pss_cons (ps_set (i := 4) scLetIn.nd rfl (.inl rfl) (pe_callTy call_list_of (by rfl) T.list (by decide +kernel) (pa_cons (pv 1) pa_nil)))
      (pss_cons (ps_set (i := 5) scLetIn.nd rfl (.inl rfl) pe_int)
      (pss_cons (ps_for PassesOwn.never rfl (pi_tup (pv 2)) (pg_tup rfl (pgs_cons (pg_name (i := 6) scLetIn.nd rfl (.inl rfl)) (pgs_cons (pg_name (i := 7) scLetIn.nd rfl (.inl rfl)) pgs_nil)))
        (pss_one (ps_if (pt_join (PW.pt (pw_or (pt_cmpR op_isN (pv 3) pe_non (nomark _)) (pw_or1 (pt_cmpR op_lt (pe_callB call_len_seq (by rfl) T.len PySem.boot_len (pa_cons (pv 4) pa_nil)) (pv 3) (nomark _))))))
          (pss_one (ps_expr (pe_bm PySem.F.plainAttrs_list PySem.F.slot_list_append PySem.F.type_list_append mt_append (pv 4) (pa_cons (pe_tup (pa_cons (pv 6) (pa_cons (pv 7) (pa_cons pe_bl pa_nil)))) pa_nil))))
          (pss_one (ps_set (i := 5) scLetIn.nd rfl (.inl rfl) (pe_op op_add (pv 5) pe_int))))))
      (pss_one (ps_ret (pe_tup (pa_cons (pe_callTy call_tuple_of (by rfl) T.tuple (by decide +kernel) (pa_cons (pv 4) pa_nil)) (pa_cons (pv 5) pa_nil)))))))), ?_⟩
    -- places = house[1]
    refine ⟨_, rfl, ah, _, _, _, rfl, rfl, SqT.of hh, atI_nat (j := 1) rfl, ?_⟩
    -- inside = list(stand)
    refine ⟨_, rfl, as, _, rfl, .inr (SqT.of hs), fun l hl => ?_⟩
    -- lost = 0
    have s1 : Same H (upd H l (.lst sxs)) := same_new hl
    -- the loop
    refine ⟨_, rfl, ab, rfl, ⟨_, SqT.of (s1 _ _ hb)⟩, for_tup (K := K) (a := ab) (xs := bxs)
      (fun i σ H' => ∃ xs rv wv, σ = [some (.ref ah), some (.ref as), some (.ref ab), some (plV h.places), some (.ref l), some (.int ((letUp h.places st b i).2 : Nat)), rv, wv] ∧
        Same H H' ∧ H' l = some (.lst xs) ∧ Paired (isPer H') xs (letUp h.places st b i).1)
      ⟨sxs, none, none, rfl, s1, upd_same, pair_mono (fun _ _ => isPer_up s1.tk) ps⟩ (fun i σ H' _ ⟨_, _, _, _, sm, _⟩ => SqT.of (sm _ _ hb)) ?_ ?_⟩
    · rintro i x σ H' hi ⟨xs, rv, wv, rfl, sm, hl', pp⟩
      obtain ⟨c, hc, ac, rfl, hac⟩ := pair_get pb hi
      have ec : b.getD i c0 = c := by
        rw [List.getD_eq_getElem?_getD, hc]
        rfl
      have hil : i < b.length := (List.getElem?_eq_some_iff.mp hc).1
      have ll := letUp_len h.places st b i
      have xl : xs.length = (letUp h.places st b i).1.length := pp.length
      -- rank, work = comer
      refine ⟨ac, _, rfl, SqT.of (sm _ _ hac), rfl, _, _, rfl, _, _, rfl, rfl, ?_⟩
      -- is there room?
      refine ⟨roomB h.places (letUp h.places st b i).1.length, fun H1 => H1 = H', ⟨_, rfl, rfl, _, rfl, ?_⟩, ?_⟩
      · cases hp : h.places with
        | none => exact ite2 (fun _ => ⟨rfl, rfl⟩) (fun q => absurd rfl q)
        | some kk =>
          refine ite2 (fun q => nomatch (of_decide_eq_true q : V.int kk = V.non)) (fun _ => ?_)
          refine ⟨_, rfl, l, _, rfl, .inl (SqL.of hl'), _, rfl, _, _, rfl, rfl, _, rfl, ?_, rfl⟩
          rw [xl, hp]
          rfl
      rintro H1 rfl
      refine ite2 (fun hroom => ?_) (fun hroom => ?_)
      · refine ⟨_, rfl, .inl ⟨rfl, _, SqL.of hl'⟩, _, rfl, _, rfl, (by show 3 ≤ sizeLine; decide), fun p hp => ?_⟩
        have nlp : l ≠ p := ne_of_none hl' hp
        refine ⟨l, xs, _, rfl, rfl, Eq.trans (upd_ne nlp) hl', ?_, ?_⟩
        · have : (10000 : Nat) < sizeLine := by decide
          omega
        · have s2 : Same H1 (upd H1 p (.tup [.int c.1, .int c.2, .bl false])) := same_new hp
          have t3 := tk_lst (o := .lst (xs ++ [.ref p])) (Eq.trans (upd_ne nlp) hl' : (upd H1 p (.tup [.int c.1, .int c.2, .bl false])) l = some (.lst xs))
          have e1 : (letUp h.places st b (i + 1)) = ((letUp h.places st b i).1 ++ [⟨c.1, c.2, false⟩], (letUp h.places st b i).2) := by
            show (if roomB h.places (letUp h.places st b i).1.length = true then _ else _) = _
            rw [if_pos hroom, ec]
          rw [e1]
          refine ⟨xs ++ [.ref p], _, _, rfl, same_mut (sm.trans s2) hl, upd_same, pair_app (pair_mono (fun _ _ z => isPer_up t3 (isPer_up s2.tk z)) pp) (.cons ⟨p, rfl, ?_⟩ .nil)⟩
          exact t3 _ _ upd_same
      · have e1 : (letUp h.places st b (i + 1)) = ((letUp h.places st b i).1, (letUp h.places st b i).2 + 1) := by
          show (if roomB h.places (letUp h.places st b i).1.length = true then _ else _) = _
          rw [if_neg hroom]
        refine ⟨_, rfl, _, _, rfl, rfl, ?_⟩
        rw [e1]
        exact ⟨xs, _, _, rfl, sm, hl', pp⟩
    · rintro σ H' ⟨xs, rv, wv, rfl, sm, hl', pp⟩
      have bl : bxs.length = b.length := pb.length
      refine ⟨_, rfl, l, xs, rfl, .inl ⟨SqL.of hl', fun p hp => ?_⟩⟩
      have s2 : Same H' (upd H' p (.tup xs)) := same_new hp
      refine ⟨_, rfl, (by show 2 ≤ sizeLine; decide), fun p2 hp2 => ?_⟩
      have s3 : Same (upd H' p (.tup xs)) (upd (upd H' p (.tup xs)) p2 (.tup [.ref p, .int ((letUp h.places st b bxs.length).2 : Nat)])) := same_new hp2
      refine q _ _ ((sm.trans s2).trans s3) ⟨p2, .ref p, rfl, ?_, ?_⟩
      · unfold lostN
        rw [← bl]
        exact upd_same
      · unfold ins
        rw [← bl]
        exact ⟨p, xs, rfl, s3 _ _ upd_same, pair_mono (fun _ _ z => isPer_up s3.tk (isPer_up s2.tk z)) pp⟩
end
end Hw

/-! == and != with an empty tuple or list. -/
namespace Hw
open PySem HwB L2
section
variable {α : Type} {f : α → PyData}
theorem lay_all (h : ∀ x, (f x).canLay0 = true) : ∀ l : List α, PyData.canLayAll0 (l.map f) = true
  | [] => by simp [PyData.canLayAll0]
  | x :: l => by
    show PyData.canLayAll0 (f x :: l.map f) = true
    rw [PyData.canLayAll0, h x, lay_all h l]
    rfl
theorem depth_all {n : Nat} (h : ∀ x, (f x).depth ≤ n) : ∀ l : List α, PyData.depthAll (l.map f) ≤ n
  | [] => by simp [PyData.depthAll]
  | x :: l => by
    show PyData.depthAll (f x :: l.map f) ≤ n
    rw [PyData.depthAll]
    have a := h x
    have b := depth_all h l
    omega
theorem shaped_tup (h1 : ∀ x, (f x).canLay0 = true) (h2 : ∀ x, (f x).depth ≤ 8) (l : List α) : SeqAt.shaped (.tuple (l.map f)) = true := by
  unfold SeqAt.shaped
  rw [PyData.canLay0, lay_all h1 l, Bool.true_and, decide_eq_true_eq, PyData.depth]
  have := depth_all h2 l
  omega
theorem shaped_lst (h1 : ∀ x, (f x).canLay0 = true) (h2 : ∀ x, (f x).depth ≤ 8) (l : List α) : SeqAt.shaped (.list (l.map f)) = true := by
  unfold SeqAt.shaped
  rw [PyData.canLay0, lay_all h1 l, Bool.true_and, decide_eq_true_eq, PyData.depth]
  have := depth_all h2 l
  omega
theorem dp_all {K : PySem.W.Frag} {H : Hp} {R : V → α → Prop} (h : ∀ v x, R v x → Dp K H v (f x)) : ∀ {xs : List V} {l : List α}, Paired R xs l → DpAll K H xs (l.map f)
  | _, _, .nil => .nil
  | _, _, .cons r t => .cons (h _ _ r) (dp_all h t)
end
theorem eqv_tup0 (ds : List PyData) : PyData.eqv (.tuple ds) (.tuple []) = ds.isEmpty := by
  cases ds <;> simp [PyData.eqv, PyData.eqvAll]
theorem eqv_lst0 (ds : List PyData) : PyData.eqv (.list ds) (.list []) = ds.isEmpty := by
  cases ds <;> simp [PyData.eqv, PyData.eqvAll]
def dPer (p : Per) : PyData := .tuple [.int p.rank, .int p.left, .bool p.bg]
theorem dPer_lay (p : Per) : (dPer p).canLay0 = true := by simp [dPer, PyData.canLay0, PyData.canLayAll0]
theorem dPer_depth (p : Per) : (dPer p).depth ≤ 8 := by simp [dPer, PyData.depth, PyData.depthAll]
theorem isPer_dp {K : PySem.W.Frag} {H : Hp} {v : V} {p : Per} : isPer H v p → Dp K H v (dPer p) := by
  rintro ⟨a, rfl, h⟩
  exact .tup (SqT.of h) (.cons (.int _) (.cons (.int _) (.cons (.bl _) .nil)))
theorem isSt_dp {K : PySem.W.Frag} {H : Hp} {v : V} {l : List Per} : isSt H v l → Dp K H v (.tuple (l.map dPer)) := by
  rintro ⟨a, xs, rfl, h, p⟩
  exact .tup (SqT.of h) (dp_all (fun _ _ z => isPer_dp z) p)
/-- stand != () -/
theorem ne_nobody {K : PySem.W.Frag} {H : Hp} {v : V} {l : List Per} {p : Addr} {Q : VK} (hv : isSt H v l) (hp : H p = some (.tup [])) (q : Q (.bl (!l.isEmpty)) H) : rNeD K v (.ref p) H Q := by
  refine ⟨_, .tuple ([] : List PyData), isSt_dp hv, .tup (SqT.of hp) .nil, shaped_tup dPer_lay dPer_depth l, by simp [SeqAt.shaped, PyData.canLay0, PyData.canLayAll0, PyData.depth, PyData.depthAll], ?_⟩
  rw [eqv_tup0, List.isEmpty_map]
  exact q
/-- stand == () -/
theorem eq_nobody {K : PySem.W.Frag} {H : Hp} {v : V} {l : List Per} {p : Addr} {Q : VK} (hv : isSt H v l) (hp : H p = some (.tup [])) (q : Q (.bl l.isEmpty) H) : rEqD K v (.ref p) H Q := by
  refine ⟨_, .tuple ([] : List PyData), isSt_dp hv, .tup (SqT.of hp) .nil, shaped_tup dPer_lay dPer_depth l, by simp [SeqAt.shaped, PyData.canLay0, PyData.canLayAll0, PyData.depth, PyData.depthAll], ?_⟩
  rw [eqv_tup0, List.isEmpty_map]
  exact q
/-- ints != [] -/
theorem ne_noints {K : PySem.W.Frag} {H : Hp} {a p : Addr} {l : List Int} {Q : VK} (ha : SqL K H a (l.map V.int)) (hp : H p = some (.lst [])) (q : Q (.bl (!l.isEmpty)) H) : rNeD K (.ref a) (.ref p) H Q := by
  have dl : Dp K H (.ref a) (.list (l.map PyData.int)) := .lst ha (by
    induction l generalizing a with
    | nil => exact .nil
    | cons z r _ =>
      clear q ha
      have gen : ∀ m : List Int, DpAll K H (m.map V.int) (m.map PyData.int) := fun m => by
        induction m with
        | nil => exact .nil
        | cons y m ih => exact .cons (.int y) ih
      exact gen (z :: r))
  refine ⟨_, .list ([] : List PyData), dl, .lst (SqL.of hp) .nil, shaped_lst (fun x => by simp [PyData.canLay0]) (fun x => by simp [PyData.depth]) l, by simp [SeqAt.shaped, PyData.canLay0, PyData.canLayAll0, PyData.depth, PyData.depthAll], ?_⟩
  rw [eqv_lst0, List.isEmpty_map]
  exact q
end Hw

/-! turn_of, picked. -/
namespace Hw
open PySem HwB L2
section
variable {P : Program} {w : World} {K : PySem.W.Frag} {mg : Str → Option Value} {base : Heap}
/-! ### turn_of -/
def isTri (H : Hp) (v : V) (t : Int × Int × Int) : Prop := ∃ a, v = .ref a ∧ H a = some (.tup [.int t.1, .int t.2.1, .int t.2.2])
theorem isTri_up {H H' : Hp} (k : TK H H') {v : V} {t : Int × Int × Int} : isTri H v t → isTri H' v t := fun ⟨a, e, h⟩ => ⟨a, e, k _ _ h⟩
def spTurn : Sp := fun vs H Q _ => ∃ (r : Str) (st : List Per) (k : Nat) (p : Per) (vst : V), vs = [.str r, vst, .int (k : Int)] ∧ isSt H vst st ∧ st[k]? = some p ∧
  ∀ v H', Same H H' → isTri H' v (turnOf r p (k : Int)) → Q v H'
theorem scTurn : FnScope ["rule", "stand", "place", "rank", "left", "begun", "own"] ["rule", "stand", "place"] (defScope sTurnOf) := ⟨rfl, rfl, rfl, by decide +kernel, rfl, by decide +kernel, by decide +kernel⟩
theorem dec_str (a b : Str) : decide (V.str a = V.str b) = decide (a = b) := by
  by_cases e : a = b
  · rw [e]
    simp
  · rw [decide_eq_false e, decide_eq_false fun q => e (V.str.inj q)]
theorem or2 {a b c d : Str} {A B : Prop} (h1 : a = b ∨ c = d → A) (h2 : ¬ (a = b ∨ c = d) → B) : if decide (a = b ∨ c = d) = true then A else B :=
  ite2 (fun q => h1 (of_decide_eq_true q)) fun q => h2 fun z => q (decide_eq_true z)
/-- r == 'a' or r == 'b' -/
theorem or_txt {r a b : Str} {R : Hp → Prop} {H : Hp} {σ : L2.St} (h0 : σ[0]? = some (some (.str r))) (hR : R H) :
    tOr (tTest (tOp rEq (tVar 0) (tC (.str a)))) (tTest (tOp rEq (tVar 0) (tC (.str b)))) σ H (fun c H1 => c = decide (r = a ∨ r = b) ∧ R H1) := by
  refine ⟨_, h0, rfl, _, rfl, ?_⟩
  refine ite2 (fun q => ⟨?_, hR⟩) (fun q => ⟨_, h0, rfl, _, rfl, ?_, hR⟩)
  · rw [dec_str] at q
    exact (decide_eq_true (.inl (of_decide_eq_true q))).symm
  · rw [dec_str] at q ⊢
    have q' : ¬ r = a := fun e => q (decide_eq_true e)
    exact decide_eq_decide.mpr ⟨.inr, fun z => z.resolve_left q'⟩
theorem ok_turnOf {f : Addr} {fd : FuncData} (F : Fun K "turn_of" "turn_of" sTurnOf f fd) (T : Blt mg) : FnOk P w K mg base CX0 1 f fd ["rule", "stand", "place"] spTurn := by
  refine F.ok scTurn (fun vs H Q E h => ?_) (fun cdv A outer s H vs Q E hr h => ?_)
  · obtain ⟨r, st, k, p, vst, rfl, _⟩ := h
    rfl
  · obtain ⟨r, st, k, p, vst, rfl, ⟨as, sxs, rfl, hs, ps⟩, hk, q⟩ := h
    obtain ⟨x, hx, ap, rfl, hp⟩ := pair_get' ps hk
    refine ⟨_, pss_cons (ps_asg (pe_ix ix_tup (pv 1) (pv 2) (fun _ _ => rfl)) (pg_tup rfl (pgs_cons (pg_name (i := 3) scTurn.nd rfl (.inl rfl)) (pgs_cons (pg_name (i := 4) scTurn.nd rfl (.inl rfl)) (pgs_cons (pg_name (i := 5) scTurn.nd rfl (.inl rfl)) pgs_nil)))))
      (pss_cons (ps_set (i := 6) scTurn.nd rfl (.inl rfl) (pe_tup (pa_cons (pv 2) (pa_cons pe_int pa_nil))))
      (pss_cons (ps_mid (ps_if (pt_join (PW.pt (pw_or (pt_cmpR op_eq (pv 0) pe_str (nomark _)) (pw_or1 (pt_cmpR op_eq (pv 0) pe_str (nomark _))))))
        (pss_one (ps_set (i := 6) scTurn.nd rfl (.inl rfl) (pe_tup (pa_cons (pe_op op_sub pe_int (pv 2)) (pa_cons pe_int pa_nil))))) pss_nil))
      (pss_cons (ps_mid (ps_if (pt_join (PW.pt (pw_or (pt_cmpR op_eq (pv 0) pe_str (nomark _)) (pw_or1 (pt_cmpR op_eq (pv 0) pe_str (nomark _))))))
        (pss_one (ps_set (i := 6) scTurn.nd rfl (.inl rfl) (pe_tup (pa_cons (pv 4) (pa_cons (pv 2) pa_nil))))) pss_nil))
      (pss_cons (ps_mid (ps_if (pt_join (PW.pt (pw_or (pt_cmpR op_eq (pv 0) pe_str (nomark _)) (pw_or1 (pt_cmpR op_eq (pv 0) pe_str (nomark _))))))
        (pss_one (ps_set (i := 6) scTurn.nd rfl (.inl rfl) (pe_tup (pa_cons (pv 3) (pa_cons (pv 2) pa_nil))))) pss_nil))
      (pss_one (ps_ret (pe_op op_catT (pe_tup (pa_cons (pe_callTy call_int1 (by rfl) T.int (by decide +kernel) (pa_cons (pe_not (pv 5)) pa_nil)) pa_nil)) (pv 6)))))))), ?_⟩
    -- rank, left, begun = stand[place]
    refine ⟨_, rfl, _, rfl, as, _, _, _, rfl, rfl, SqT.of hs, atI_nat hx, ap, _, rfl, SqT.of hp, rfl, _, _, rfl, _, _, rfl, _, _, rfl, rfl, ?_⟩
    -- own = (place, 0)
    refine ⟨_, rfl, (by show 2 ≤ sizeLine; decide), fun a0 n0 => ?_⟩
    have s0 : Same H (upd H a0 (.tup [.int (k : Int), .int 0])) := same_new n0
    have two : (2 : Nat) ≤ sizeLine := by decide
    let M : Int × Int → L2.St → Hp → Prop := fun o σ H' => ∃ a, σ = [some (.str r), some (.ref as), some (.int (k : Int)), some (.int p.rank), some (.int p.left), some (.bl p.bg), some (.ref a)] ∧ Same H H' ∧ H' a = some (.tup [.int o.1, .int o.2])
    have new : ∀ (o : Int × Int) (H1 : Hp) (a : Addr), Same H H1 → H1 a = none → M o [some (.str r), some (.ref as), some (.int (k : Int)), some (.int p.rank), some (.int p.left), some (.bl p.bg), some (.ref a)] (upd H1 a (.tup [.int o.1, .int o.2])) :=
      fun o H1 a s1 n1 => ⟨a, rfl, s1.trans (same_new n1), upd_same⟩
    refine ⟨M (own1 r k), ?_, ?_⟩
    · refine ⟨_, fun H1 => H1 = _, or_txt rfl rfl, ?_⟩
      rintro H1 rfl
      refine or2 (fun c => ?_) (fun c => ?_)
      · refine ⟨_, rfl, _, _, rfl, rfl, two, fun a1 n1 => ?_⟩
        unfold own1
        rw [if_pos c]
        exact new (0 - (k : Int), 0) _ a1 s0 n1
      · unfold own1
        rw [if_neg c]
        exact ⟨a0, rfl, s0, upd_same⟩
    rintro σ H1 ⟨a1, rfl, s1, h1⟩
    refine ⟨M (own2 r p k), ?_, ?_⟩
    · refine ⟨_, fun H2 => H2 = H1, or_txt rfl rfl, ?_⟩
      rintro H2 rfl
      refine or2 (fun c => ?_) (fun c => ?_)
      · refine ⟨_, rfl, _, rfl, two, fun a2 n2 => ?_⟩
        unfold own2
        rw [if_pos c]
        exact new (p.left, (k : Int)) _ a2 s1 n2
      · unfold own2
        rw [if_neg c]
        exact ⟨a1, rfl, s1, h1⟩
    rintro σ H2 ⟨a2, rfl, s2, h2⟩
    refine ⟨M (own3 r p k), ?_, ?_⟩
    · refine ⟨_, fun H3 => H3 = H2, or_txt rfl rfl, ?_⟩
      rintro H3 rfl
      refine or2 (fun c => ?_) (fun c => ?_)
      · refine ⟨_, rfl, _, rfl, two, fun a3 n3 => ?_⟩
        unfold own3
        rw [if_pos c]
        exact new (p.rank, (k : Int)) _ a3 s2 n3
      · unfold own3
        rw [if_neg c]
        exact ⟨a2, rfl, s2, h2⟩
    rintro σ H3 ⟨a3, rfl, s3, h3⟩
    -- return (int(not begun),) + own
    refine ⟨_, rfl, _, rfl, .inr ⟨_, rfl, (by show 1 ≤ sizeLine; decide), fun t nt => ?_⟩⟩
    have s4 : Same H3 (upd H3 t (.tup [.int (if (!p.bg) = true then 1 else 0)])) := same_new nt
    refine ⟨_, rfl, t, a3, _, _, rfl, rfl, SqT.of upd_same, SqT.of (s4 _ _ h3), by simp, (by show 3 ≤ sizeLine; decide), fun e => by simp at e, fun _ u nu => ?_⟩
    have s5 : Same (upd H3 t (.tup [.int (if (!p.bg) = true then 1 else 0)])) (upd (upd H3 t (.tup [.int (if (!p.bg) = true then 1 else 0)])) u (.tup ([.int (if (!p.bg) = true then 1 else 0)] ++ [.int (own3 r p k).1, .int (own3 r p k).2]))) := same_new nu
    refine q _ _ ((s3.trans s4).trans s5) ⟨u, rfl, ?_⟩
    rw [upd_same]
    unfold turnOf
    cases p.bg <;> rfl
end
end Hw

/-! picked. -/
namespace Hw
open PySem HwB L2
section
variable {P : Program} {w : World} {K : PySem.W.Frag} {mg : Str → Option Value} {base : Heap}
def isKey (H : Hp) (v : V) (t : Tri) : Prop := ∃ a q, v = .ref a ∧ H a = some (.tup [q, .int t.2]) ∧ isTri H q t.1
theorem isKey_up {H H' : Hp} (k : TK H H') {v : V} {t : Tri} : isKey H v t → isKey H' v t := fun ⟨a, q, e, h, z⟩ => ⟨a, q, e, k _ _ h, isTri_up k z⟩
theorem isKey_dp {K : PySem.W.Frag} {H : Hp} {v : V} {t : Tri} : isKey H v t → Dp K H v (enc t) := by
  rintro ⟨a, q, rfl, h, ⟨b, rfl, z⟩⟩
  exact .tup (SqT.of h) (.cons (.tup (SqT.of z) (.cons (.int _) (.cons (.int _) (.cons (.int _) .nil)))) (.cons (.int _) .nil))
theorem cut_to (xs : List V) (k : Nat) : cutV xs none (some (k : Int)) = xs.take k := by
  unfold cutV
  rw [HT.sIx_nat xs.length xs.length k, HT.sIx_none, List.drop_zero, Nat.sub_zero]
  by_cases h : k ≤ xs.length
  · rw [Nat.min_eq_left h]
  · rw [Nat.min_eq_right (by omega), List.take_length, List.take_of_length_le (by omega)]
theorem pair_take {α β : Type} {R : α → β → Prop} : ∀ {xs : List α} {l : List β} (n : Nat), Paired R xs l → Paired R (xs.take n) (l.take n)
  | _, _, 0, _ => .nil
  | _, _, _ + 1, .nil => .nil
  | _, _, n + 1, .cons r t => .cons r (pair_take n t)
theorem take_snoc {α : Type} {l : List α} {i : Nat} {x : α} (h : l[i]? = some x) : l.take (i + 1) = l.take i ++ [x] := by
  rw [List.take_add_one, h]
  rfl

def spPicked : Sp := fun vs H Q _ => ∃ (h : Hs) (st : List Per) (vh vst : V), vs = [vh, vst] ∧ isHs H vh h ∧ isSt H vst st ∧ 0 ≤ h.hands ∧ st.length ≤ 10000 ∧
  ∀ v H', Same H H' → isInts H' v (pk h st) → Q v H'
abbrev nPicked : List Str := ["house", "stand", "hands", "places", "rule", "line", "place", "turn"]
theorem scPicked : FnScope nPicked ["house", "stand"] (defScope sPicked) := ⟨rfl, rfl, rfl, by decide +kernel, rfl, by decide +kernel, by decide +kernel⟩
theorem ok_picked {f : Addr} {fd : FuncData} (F : Fun K "picked" "picked" sPicked f fd) (T : Blt mg) (CT : Has P w K mg base "turn_of" 1 ["rule", "stand", "place"] spTurn) :
    FnOk P w K mg base CX0 2 f fd ["house", "stand"] spPicked := by
  refine F.ok scPicked (fun vs H Q E h => ?_) (fun cdv A outer s H vs Q E hr h => ?_)
  · obtain ⟨h, st, vh, vst, rfl, _⟩ := h
    rfl
  · obtain ⟨h, st, vh, vst, rfl, ⟨ah, rfl, hh⟩, ⟨as, sxs, rfl, hs, ps⟩, h0, hlen, q⟩ := h
    refine ⟨_, pss_cons (ps_asg (pv 0) (pg_tup rfl (pgs_cons (pg_name (i := 2) scPicked.nd rfl (.inl rfl)) (pgs_cons (pg_name (i := 3) scPicked.nd rfl (.inl rfl)) (pgs_cons (pg_name (i := 4) scPicked.nd rfl (.inr rfl)) pgs_nil)))))
      (pss_cons (ps_set (i := 5) scPicked.nd rfl (.inl rfl) (pe_callB (cr_sortD hr.units) (by rfl) T.sorted (by decide +kernel) (pa_cons
        (pe_lc (own := [("place", 6)]) (g := gName 6) (tt := tYes) rfl scPicked.nd (pi_range1 rfl T.range (pa_cons (pe_callB call_len_seq (by rfl) T.len PySem.boot_len (pa_cons (pv 1) pa_nil)) pa_nil))
          (blkOk_by (N := nPicked) (sc := defScope sPicked) (by decide +kernel)) (fun _ _ _ _ _ => pg_name (i := 6) scPicked.nd rfl (Or.inl rfl)) (fun _ _ _ _ _ => pts_nil)
          (fun _ _ _ _ _ => pe_tup (pa_cons (pe_has CT hr (pa_cons (pv 4) (pa_cons (pv 1) (pa_cons (pv 6) pa_nil)))) (pa_cons (pv 6) pa_nil)))) pa_nil)))
      (pss_one (ps_ret (pe_callTy call_tuple_of (by rfl) T.tuple (by decide +kernel) (pa_cons (pe_callB cr_sortedI (by rfl) T.sorted (by decide +kernel) (pa_cons
        (pe_lc (own := [("turn", 7), ("place", 6)]) (g := gTup K 2 (gCons (gName 7) (gCons (gName 6) gNil))) (tt := tYes) rfl scPicked.nd (pi_list (pe_slice sl_list (pv 5) po_none (po_some (pv 2))))
          (blkOk_by (N := nPicked) (sc := defScope sPicked) (by decide +kernel))
          (fun _ _ _ _ _ => pg_tup rfl (pgs_cons (pg_name (i := 7) scPicked.nd rfl (Or.inl rfl)) (pgs_cons (pg_name (i := 6) scPicked.nd rfl (Or.inl rfl)) pgs_nil))) (fun _ _ _ _ _ => pts_nil)
          (fun _ _ _ _ _ => pv 6)) pa_nil)) pa_nil))))), ?_⟩
    -- hands, places, rule = house
    refine ⟨_, rfl, ah, _, rfl, SqT.of hh, rfl, _, _, rfl, _, _, rfl, _, _, rfl, rfl, ?_⟩
    -- the keys
    have sl : sxs.length = st.length := ps.length
    have big : (10000 : Nat) < sizeLine := by decide
    refine ⟨_, rfl, as, sxs, rfl, .inr (SqT.of hs), (sxs.length : Nat), rfl, by omega, by omega, fun D hD => ?_⟩
    rw [show ((sxs.length : Nat) : Int).toNat = sxs.length by omega]
    refine lc_range (lo := 0) (n := sxs.length) (fun i H' => ∃ xs, Same H H' ∧ H' D = some (.lst xs) ∧ Paired (isKey H') xs ((lineOf h.rule st).take i))
      ⟨[], same_new hD, upd_same, .nil⟩ ?_ ?_
    · rintro i H' hi ⟨xs, sm, hx, px⟩
      obtain ⟨p, hp⟩ : ∃ p, st[i]? = some p := ⟨st[i]'(by omega), List.getElem?_eq_getElem (by omega)⟩
      refine ⟨rfl, ?_⟩
      refine ⟨_, rfl, _, rfl, _, rfl, h.rule, st, i, p, _, ?_, isSt_up sm.tk ⟨as, sxs, rfl, hs, ps⟩, hp, fun v H1 s1 hv => ?_⟩
      · rw [show (0 : Int) + (i : Int) = (i : Int) by omega]
        rfl
      refine ⟨_, rfl, (by show 2 ≤ sizeLine; decide), fun t nt => ?_⟩
      have hD1 : H1 D = some (.lst xs) := s1 _ _ hx
      have nDt : D ≠ t := ne_of_none hD1 nt
      have s2 : Same H1 (upd H1 t (.tup [v, .int (0 + (i : Int))])) := same_new nt
      have xl : xs.length = i := by
        rw [px.length, List.length_take, line_len]
        omega
      refine ⟨xs, Eq.trans (upd_ne nDt) hD1, by omega, xs ++ [.ref t], same_mut ((sm.trans s1).trans s2) hD, upd_same, ?_⟩
      have t3 := tk_lst (o := .lst (xs ++ [.ref t])) (Eq.trans (upd_ne nDt) hD1 : (upd H1 t (.tup [v, .int (0 + (i : Int))])) D = some (.lst xs))
      have li : (lineOf h.rule st)[i]? = some (turnOf h.rule p (i : Int), (i : Int)) := by
        unfold lineOf
        rw [List.getElem?_map, List.getElem?_range (by omega), Option.map_some, List.getD_eq_getElem?_getD, hp]
        rfl
      rw [take_snoc li]
      refine pair_app (pair_mono (fun _ _ z => isKey_up t3 (isKey_up s2.tk (isKey_up s1.tk z))) px) (.cons ⟨t, v, rfl, ?_, isTri_up t3 (isTri_up s2.tk hv)⟩ .nil)
      refine t3 _ _ ?_
      rw [upd_same, show (0 : Int) + (i : Int) = (i : Int) by omega]
    · rintro H1 ⟨xs, sm, hx, px⟩
      rw [sl, show st.length = (lineOf h.rule st).length from (line_len _ _).symm, List.take_length] at px
      refine ⟨D, xs, _, isKey H1, rfl, SqL.of hx, px, fun v b z => isKey_dp z, fun ys p np py => ?_⟩
      have s2 : Same H1 (upd H1 p (.lst ys)) := same_new np
      have py2 : Paired (isKey (upd H1 p (.lst ys))) ys (srt (lineOf h.rule st)) := pair_mono (fun _ _ z => isKey_up s2.tk z) py
      have hp2 : (upd H1 p (.lst ys)) p = some (.lst ys) := upd_same
      have sm2 : Same H (upd H1 p (.lst ys)) := sm.trans s2
      clear hx px py s2 np sm
      generalize upd H1 p (.lst ys) = H2 at py2 hp2 sm2
      -- line[:hands]
      obtain ⟨m, hm⟩ : ∃ m : Nat, h.hands = (m : Int) := ⟨h.hands.toNat, by omega⟩
      refine ⟨.ref p, rfl, _, rfl, h.hands, rfl, p, ys, rfl, SqL.of hp2, fun c nc => ?_⟩
      have s3 : Same H2 (upd H2 c (.lst (cutV ys none (some h.hands)))) := same_new nc
      have hc : (upd H2 c (.lst (cutV ys none (some h.hands)))) c = some (.lst (ys.take m)) := by
        rw [upd_same, hm, cut_to]
      have pz := pair_take m (pair_mono (fun _ _ z => isKey_up s3.tk z) py2)
      have sm3 := sm2.trans s3
      have line2 : Paired (isKey (upd H2 c (.lst (cutV ys none (some h.hands))))) (ys.take m) ((srt (lineOf h.rule st)).take h.hands.toNat) := by
        have e : h.hands.toNat = m := by omega
        rw [e]
        exact pz
      clear s3 pz nc py2 hp2 sm2
      generalize upd H2 c (.lst (cutV ys none (some h.hands))) = H3 at hc line2 sm3
      generalize hL : (srt (lineOf h.rule st)).take h.hands.toNat = L at line2
      have Ll : L.length ≤ 10000 := by
        rw [← hL, List.length_take]
        have e1 : (srt (lineOf h.rule st)).length = st.length := (srt_perm _).length_eq.trans (line_len _ _)
        omega
      refine ⟨c, rfl, ⟨_, SqL.of hc⟩, fun D2 hD2 => ?_⟩
      refine lc_list (K := K) (a := c) (xs := ys.take m) (fun i H' => Same H3 H' ∧ H' D2 = some (.lst (((L.take i).map (·.2)).map V.int)))
        ⟨same_new hD2, upd_same⟩ (fun i H' _ ⟨sm, _⟩ => SqL.of (sm _ _ hc)) ?_ ?_
      · rintro i x H' hi ⟨sm, hx⟩
        obtain ⟨t, ht, at_, qt, rfl, ha, -⟩ := pair_get line2 hi
        have il : i < L.length := (List.getElem?_eq_some_iff.mp ht).1
        refine ⟨at_, _, rfl, SqT.of (sm _ _ ha), rfl, _, _, rfl, _, _, rfl, rfl, rfl, ?_⟩
        refine ⟨_, rfl, _, hx, ?_, same_mut sm hD2, ?_⟩
        · rw [List.length_map, List.length_map, List.length_take]
          omega
        · rw [upd_same, take_snoc ht, List.map_append, List.map_append]
          rfl
      · rintro H' ⟨sm, hx⟩
        have ly : (ys.take m).length = L.length := line2.length
        rw [ly, List.take_length] at hx
        refine ⟨D2, _, rfl, SqL.of hx, fun ns p2 perm sorted np => ?_⟩
        have e : ns = pk h st := by
          unfold pk
          rw [hL]
          exact sortI_one perm sorted
        refine ⟨p2, _, rfl, .inl ⟨SqL.of upd_same, fun p3 np3 => ?_⟩⟩
        refine q _ _ (((sm3.trans sm).trans (same_new np)).trans (same_new np3)) ⟨p3, rfl, ?_⟩
        rw [upd_same, e]
end
end Hw

/-! step. -/
namespace Hw
open PySem HwB L2
theorem walk_enumT {K : PySem.W.Frag} {a : Addr} {xs : List V} : Walk (HwA.ItT K a xs.length) xs.length (fun H => SqT K H a xs) (YPair (fun i => some (.int (i : Nat))) (fun i => xs[i]?)) := by
  refine ⟨fun i _ hi q => ⟨xs, xs[i], q, rfl, by simp [hi]⟩, fun _ q => ⟨xs, q, rfl, Nat.le_refl _⟩, fun i H v H' _ q y => ?_⟩
  obtain ⟨T, x, h1, h2, h3, h4⟩ := y
  exact ⟨T, .int (i : Nat), x, h1, h2, h3, rfl, h4 xs q⟩
theorem inV_ints (z : Int) (l : List Int) : inV (.int z) (l.map V.int) = decide (z ∈ l) := by
  unfold inV
  rw [List.any_map]
  rw [Bool.eq_iff_iff, List.any_eq_true, decide_eq_true_eq]
  constructor
  · rintro ⟨y, hy, e⟩
    have e' : (y == z) = true := e
    rw [← eq_of_beq e']
    exact hy
  · intro h
    exact ⟨z, h, (beq_self_eq_true z : (z == z) = true)⟩
theorem flat_ints (l : List Int) : (l.map V.int).all flatV = true := by
  rw [List.all_map]
  exact List.all_eq_true.mpr fun _ _ => rfl
section
variable {P : Program} {w : World} {K : PySem.W.Frag} {mg : Str → Option Value} {base : Heap}
def isStep (H : Hp) (v : V) (l : List Per) (n : Int) (g : List Int) : Prop := ∃ a x y, v = .ref a ∧ H a = some (.tup [x, .int n, y]) ∧ isSt H x l ∧ isInts H y g
def spStep : Sp := fun vs H Q _ => ∃ (h : Hs) (st : List Per) (b : List Com) (vh vst vb : V), vs = [vh, vst, vb] ∧ isHs H vh h ∧ isSt H vst st ∧ isBt H vb b ∧ 0 ≤ h.hands ∧ st.length + b.length ≤ 10000 ∧
  ∀ v H', Same H H' → isStep H' v (nxt h st b) (lostN h st b : Nat) (gn h st b) → Q v H'
theorem scStep : FnScope ["house", "stand", "beat", "rule", "inside", "lost", "some", "kept", "behind", "gone", "place", "rank", "left", "begun"] ["house", "stand", "beat"] (defScope sStep) :=
  ⟨rfl, rfl, rfl, by decide +kernel, rfl, by decide +kernel, by decide +kernel⟩
theorem ok_step {f : Addr} {fd : FuncData} (F : Fun K "step" "step" sStep f fd) (T : Blt mg) (CL : Has P w K mg base "let_in" 1 ["house", "stand", "beat"] spLetIn)
    (CP : Has P w K mg base "picked" 2 ["house", "stand"] spPicked) (CK : Has P w K mg base "keeps" 1 ["rule"] spKeeps) :
    FnOk P w K mg base CX0 3 f fd ["house", "stand", "beat"] spStep := by
  refine F.ok scStep (fun vs H Q E h => ?_) (fun cdv A outer s H vs Q E hr h => ?_)
  · obtain ⟨h, st, b, vh, vst, vb, rfl, _⟩ := h
    rfl
  · obtain ⟨h, st, b, vh, vst, vb, rfl, hH, hst, hb, h0, hlen, q⟩ := h
    have nd := scStep.nd
    refine ⟨_, (pss_cons (ps_set (i := 3) nd rfl (Or.inl rfl) (pe_ix ix_tup (pv 0) pe_int (fun _ _ => rfl)))
      (pss_cons (ps_asg (pe_has CL (hr.mono (by decide)) (pa_cons (pv 0) (pa_cons (pv 1) (pa_cons (pv 2) pa_nil)))) (pg_tup rfl (pgs_cons (pg_name (i := 4) nd rfl (Or.inl rfl)) (pgs_cons (pg_name (i := 5) nd rfl (Or.inl rfl)) pgs_nil))))
      (pss_cons (ps_set (i := 6) nd rfl (Or.inl rfl) (pe_has CP (hr.mono (by decide)) (pa_cons (pv 0) (pa_cons (pv 4) pa_nil))))
      (pss_cons (ps_set (i := 7) nd rfl (Or.inl rfl) (pe_lst pa_nil))
      (pss_cons (ps_set (i := 8) nd rfl (Or.inl rfl) (pe_lst pa_nil))
      (pss_cons (ps_set (i := 9) nd rfl (Or.inl rfl) (pe_lst pa_nil))
      (pss_cons (ps_for PassesOwn.never rfl (HwA.pi_enumT (by rfl) T.enumerate (pa_cons (pv 4) pa_nil)) (pg_tup rfl (pgs_cons (pg_name (i := 10) nd rfl (Or.inl rfl)) (pgs_cons (pg_tup rfl (pgs_cons (pg_name (i := 11) nd rfl (Or.inl rfl)) (pgs_cons (pg_name (i := 12) nd rfl (Or.inl rfl)) (pgs_cons (pg_name (i := 13) nd rfl (Or.inl rfl)) pgs_nil)))) pgs_nil))) (pss_one (ps_if (pt_cmpR op_notIn_seq (pv 10) (pv 6) (by rfl)) (pss_one (ps_expr (pe_bm PySem.F.plainAttrs_list PySem.F.slot_list_append PySem.F.type_list_append mt_append (pv 7) (pa_cons (pe_tup (pa_cons (pv 11) (pa_cons (pv 12) (pa_cons (pv 13) pa_nil)))) pa_nil)))) (pss_one (ps_if (pt_cmpR op_eq (pv 12) pe_int (nomark _)) (pss_one (ps_expr (pe_bm PySem.F.plainAttrs_list PySem.F.slot_list_append PySem.F.type_list_append mt_append (pv 9) (pa_cons (pv 10) pa_nil)))) (pss_one (ps_if (pt_cmpR op_eq (pv 3) pe_str (nomark _)) (pss_one (ps_expr (pe_bm PySem.F.plainAttrs_list PySem.F.slot_list_append PySem.F.type_list_append mt_append (pv 8) (pa_cons (pe_tup (pa_cons (pv 11) (pa_cons (pe_op op_sub (pv 12) pe_int) (pa_cons pe_bl pa_nil)))) pa_nil)))) (pss_one (ps_expr (pe_bm PySem.F.plainAttrs_list PySem.F.slot_list_append PySem.F.type_list_append mt_append (pv 7) (pa_cons (pe_tup (pa_cons (pv 11) (pa_cons (pe_op op_sub (pv 12) pe_int) (pa_cons (pe_has CK (hr.mono (by decide)) (pa_cons (pv 3) pa_nil)) pa_nil)))) pa_nil)))))))))))
      (pss_one (ps_ret (pe_tup (pa_cons (pe_callTy call_tuple_of (by rfl) T.tuple (by decide +kernel) (pa_cons (pe_op op_cat (pv 7) (pv 8)) pa_nil)) (pa_cons (pv 5) (pa_cons (pe_callTy call_tuple_of (by rfl) T.tuple (by decide +kernel) (pa_cons (pv 9) pa_nil)) pa_nil))))))))))))), ?_⟩
    -- rule = house[2]
    obtain ⟨ah, rfl, hh⟩ := id hH
    refine ⟨_, rfl, ah, _, _, _, rfl, rfl, SqT.of hh, atI_nat (j := 2) rfl, ?_⟩
    -- inside, lost = let_in(house, stand, beat)
    refine ⟨_, rfl, _, rfl, _, rfl, h, st, b, _, _, _, rfl, hH, hst, hb, hlen, fun v1 H1 s1 hv1 => ?_⟩
    obtain ⟨a1, x1, rfl, ha1, hin⟩ := hv1
    refine ⟨a1, _, rfl, SqT.of ha1, rfl, _, _, rfl, _, _, rfl, rfl, ?_⟩
    -- some = picked(house, inside)
    have il := ins_le h st b
    refine ⟨_, rfl, _, rfl, h, ins h st b, _, _, rfl, isHs_up s1.tk hH, hin, h0, by omega, fun v2 H2 s2 hv2 => ?_⟩
    obtain ⟨a2, rfl, ha2⟩ := hv2
    have hin2 := isSt_up s2.tk hin
    have sm2 := s1.trans s2
    clear hin ha1 s1 s2
    -- the three lists
    refine ⟨Nat.zero_le _, fun lk nk => ?_⟩
    refine ⟨Nat.zero_le _, fun lb nlb => ?_⟩
    refine ⟨Nat.zero_le _, fun lg nlg => ?_⟩
    have e1 : lb ≠ lk := (ne_of_none upd_same nlb).symm
    have b2 : H2 lb = none := by rw [upd_ne e1] at nlb; exact nlb
    have e2 : lg ≠ lb := (ne_of_none upd_same nlg).symm
    have c2 : (upd H2 lk (.lst [])) lg = none := by rw [upd_ne e2] at nlg; exact nlg
    have e3 : lg ≠ lk := (ne_of_none upd_same c2).symm
    have g2 : H2 lg = none := by rw [upd_ne e3] at c2; exact c2
    obtain ⟨ai, ixs, rfl, hi2, pi2⟩ := id hin2
    generalize hH3 : upd (upd (upd H2 lk (.lst [])) lb (.lst [])) lg (.lst []) = H3
    have s3 : Same H2 H3 := by
      rw [← hH3]
      exact same_mut (same_mut (same_new nk) b2) g2
    have k3 : H3 lk = some (.lst []) := by rw [← hH3, upd_ne e3.symm, upd_ne e1.symm, upd_same]
    have b3 : H3 lb = some (.lst []) := by rw [← hH3, upd_ne e2.symm, upd_same]
    have g3 : H3 lg = some (.lst []) := by rw [← hH3, upd_same]
    have two : (3 : Nat) ≤ sizeLine := by decide
    have big : (10000 : Nat) < sizeLine := by decide
    have ixl : ixs.length = (ins h st b).length := pi2.length
    refine ⟨_, rfl, ai, ixs, rfl, SqT.of (s3 _ _ hi2), for_it walk_enumT (fun i σ H' => ∃ xk xb w1 w2 w3 w4,
        σ = [some (.ref ah), some vst, some vb, some (.str h.rule), some (.ref ai), some (.int (lostN h st b : Nat)), some (.ref a2), some (.ref lk), some (.ref lb), some (.ref lg), w1, w2, w3, w4] ∧
        Same H2 H' ∧ H' lk = some (.lst xk) ∧ H' lb = some (.lst xb) ∧ H' lg = some (.lst ((stepUp h.rule (pk h (ins h st b)) (ins h st b) i).gone.map V.int)) ∧
        Paired (isPer H') xk (stepUp h.rule (pk h (ins h st b)) (ins h st b) i).kept ∧ Paired (isPer H') xb (stepUp h.rule (pk h (ins h st b)) (ins h st b) i).beh)
      ⟨[], [], none, none, none, none, rfl, s3, k3, b3, g3, .nil, .nil⟩ (fun i σ H' _ ⟨_, _, _, _, _, _, _, sm, _⟩ => SqT.of (sm _ _ hi2)) ?_ ?_⟩
    · rintro i x σ H4 H5 hi ⟨xk, xb, w1, w2, w3, w4, rfl, sm, hk, hbl, hg, pk4, pb4⟩ ⟨t, y1, y2, rfl, nt, rfl, ey1, ey2⟩
      obtain rfl : V.int (i : Nat) = y1 := Option.some.inj ey1
      obtain ⟨p, hp, ap, rfl, hap⟩ := pair_get pi2 ey2
      have ep : (ins h st b).getD i p0 = p := by
        rw [List.getD_eq_getElem?_getD, hp]
        rfl
      have s5 : Same H4 (upd H4 t (.tup [.int (i : Nat), .ref ap])) := same_new nt
      have ht : (upd H4 t (.tup [.int (i : Nat), .ref ap])) t = some (.tup [.int (i : Nat), .ref ap]) := upd_same
      have hk5 := s5 _ _ hk
      have hb5 := s5 _ _ hbl
      have hg5 := s5 _ _ hg
      have sm5 := sm.trans s5
      have pk5 := pair_mono (fun _ _ z => isPer_up s5.tk z) pk4
      have pb5 := pair_mono (fun _ _ z => isPer_up s5.tk z) pb4
      have hap5 := sm5 _ _ hap
      have hP5 := sm5 _ _ ha2
      have sul := stepUp_len h.rule (pk h (ins h st b)) (ins h st b) i
      have kl : xk.length = (stepUp h.rule (pk h (ins h st b)) (ins h st b) i).kept.length := pk4.length
      have bl : xb.length = (stepUp h.rule (pk h (ins h st b)) (ins h st b) i).beh.length := pb4.length
      clear hk hbl hg sm pk4 pb4 s5 nt
      generalize upd H4 t (.tup [.int (i : Nat), .ref ap]) = H5 at *
      refine ⟨t, _, rfl, SqT.of ht, rfl, _, _, rfl, _, _, rfl, ⟨ap, _, rfl, SqT.of hap5, rfl, _, _, rfl, _, _, rfl, _, _, rfl, rfl, rfl, ?_⟩⟩
      -- place not in some
      refine ⟨_, rfl, _, rfl, a2, _, rfl, .inr (SqT.of hP5), rfl, flat_ints _, _, rfl, ?_⟩
      have inn : inV (.int (i : Nat)) ((pk h (ins h st b)).map V.int) = decide ((i : Int) ∈ pk h (ins h st b)) := inV_ints _ _
      have addk : ∀ (pp : Per) (q5 : Addr) (H6 : Hp), H6 q5 = none → Same H5 H6 → ∀ xk', xk' = xk ++ [.ref q5] →
          Same H2 (upd (upd H6 q5 (.tup [.int pp.rank, .int pp.left, .bl pp.bg])) lk (.lst xk')) ∧
          (upd (upd H6 q5 (.tup [.int pp.rank, .int pp.left, .bl pp.bg])) lk (.lst xk')) lk = some (.lst xk') ∧
          (upd (upd H6 q5 (.tup [.int pp.rank, .int pp.left, .bl pp.bg])) lk (.lst xk')) lb = some (.lst xb) ∧
          (upd (upd H6 q5 (.tup [.int pp.rank, .int pp.left, .bl pp.bg])) lk (.lst xk')) lg = some (.lst ((stepUp h.rule (pk h (ins h st b)) (ins h st b) i).gone.map V.int)) ∧
          Paired (isPer (upd (upd H6 q5 (.tup [.int pp.rank, .int pp.left, .bl pp.bg])) lk (.lst xk'))) xk' ((stepUp h.rule (pk h (ins h st b)) (ins h st b) i).kept ++ [pp]) ∧
          Paired (isPer (upd (upd H6 q5 (.tup [.int pp.rank, .int pp.left, .bl pp.bg])) lk (.lst xk'))) xb (stepUp h.rule (pk h (ins h st b)) (ins h st b) i).beh := by
        rintro pp q5 H6 nq s6 xk' rfl
        have nlq : lk ≠ q5 := ne_of_none (s6 _ _ hk5) nq
        have s7 : Same H6 (upd H6 q5 (.tup [.int pp.rank, .int pp.left, .bl pp.bg])) := same_new nq
        have hk7 : (upd H6 q5 (.tup [.int pp.rank, .int pp.left, .bl pp.bg])) lk = some (.lst xk) := s7 _ _ (s6 _ _ hk5)
        have t8 := tk_lst (o := .lst (xk ++ [.ref q5])) hk7
        refine ⟨same_mut ((sm5.trans s6).trans s7) nk, upd_same, ?_, ?_, pair_app (pair_mono (fun _ _ z => isPer_up t8 (isPer_up s7.tk (isPer_up s6.tk z))) pk5) (.cons ⟨q5, rfl, t8 _ _ upd_same⟩ .nil),
          pair_mono (fun _ _ z => isPer_up t8 (isPer_up s7.tk (isPer_up s6.tk z))) pb5⟩
        · rw [upd_ne e1]
          exact s7 _ _ (s6 _ _ hb5)
        · rw [upd_ne e3]
          exact s7 _ _ (s6 _ _ hg5)
      refine ite2 (fun c => ?_) (fun c => ?_)
      · have c' : (i : Int) ∉ pk h (ins h st b) := by
          intro m
          have z : (!inV (.int (i : Nat)) ((pk h (ins h st b)).map V.int)) = true := c
          rw [inn, decide_eq_true m] at z
          cases z
        have eu : stepUp h.rule (pk h (ins h st b)) (ins h st b) (i + 1) = { stepUp h.rule (pk h (ins h st b)) (ins h st b) i with kept := (stepUp h.rule (pk h (ins h st b)) (ins h st b) i).kept ++ [p] } := by
          show (if (i : Int) ∈ pk h (ins h st b) then _ else _) = _
          rw [if_neg c', ep]
        refine ⟨_, rfl, .inl ⟨rfl, _, SqL.of hk5⟩, _, rfl, _, rfl, _, rfl, two, fun q5 nq => ?_⟩
        refine ⟨lk, xk, _, rfl, rfl, Eq.trans (upd_ne (ne_of_none hk5 nq)) hk5, by omega, ?_⟩
        rw [eu]
        obtain ⟨z1, z2, z3, z4, z5, z6⟩ := addk p q5 H5 nq (Same.refl _) _ rfl
        exact ⟨_, xb, _, _, _, _, rfl, z1, z2, z3, z4, z5, z6⟩
      · have c' : (i : Int) ∈ pk h (ins h st b) := by
          refine Classical.byContradiction fun m => c ?_
          show (!inV (.int (i : Nat)) ((pk h (ins h st b)).map V.int)) = true
          rw [inn, decide_eq_false m]
          rfl
        -- left == 1
        refine ⟨_, rfl, rfl, _, rfl, ite2 (fun d => ?_) (fun d => ?_)⟩
        · have d' : p.left = 1 := V.int.inj (of_decide_eq_true d)
          have eu : stepUp h.rule (pk h (ins h st b)) (ins h st b) (i + 1) = { stepUp h.rule (pk h (ins h st b)) (ins h st b) i with gone := (stepUp h.rule (pk h (ins h st b)) (ins h st b) i).gone ++ [(i : Int)] } := by
            show (if (i : Int) ∈ pk h (ins h st b) then _ else _) = _
            rw [if_pos c', ep, if_pos d']
          refine ⟨_, rfl, .inl ⟨rfl, _, SqL.of hg5⟩, _, rfl, lg, _, _, rfl, rfl, hg5, by rw [List.length_map]; omega, ?_⟩
          have t8 := tk_lst (o := .lst ((stepUp h.rule (pk h (ins h st b)) (ins h st b) i).gone.map V.int ++ [V.int (i : Nat)])) hg5
          rw [eu]
          refine ⟨xk, xb, _, _, _, _, rfl, same_mut sm5 g2, (upd_ne e3.symm).trans hk5, (upd_ne e2.symm).trans hb5, ?_, pair_mono (fun _ _ z => isPer_up t8 z) pk5, pair_mono (fun _ _ z => isPer_up t8 z) pb5⟩
          rw [upd_same, List.map_append]
          rfl
        · have d' : ¬ p.left = 1 := fun e => d (decide_eq_true (congrArg V.int e))
          -- rule == 'turns'
          refine ⟨_, rfl, rfl, _, rfl, ite2 (fun u => ?_) (fun u => ?_)⟩
          · have u' : h.rule = "turns" := V.str.inj (of_decide_eq_true u)
            have eu : stepUp h.rule (pk h (ins h st b)) (ins h st b) (i + 1) = { stepUp h.rule (pk h (ins h st b)) (ins h st b) i with beh := (stepUp h.rule (pk h (ins h st b)) (ins h st b) i).beh ++ [⟨p.rank, p.left - 1, false⟩] } := by
              show (if (i : Int) ∈ pk h (ins h st b) then _ else _) = _
              rw [if_pos c', ep, if_neg d', if_pos u']
            refine ⟨_, rfl, .inl ⟨rfl, _, SqL.of hb5⟩, _, rfl, _, rfl, _, _, rfl, rfl, two, fun q5 nq => ?_⟩
            have s7 : Same H5 (upd H5 q5 (.tup [.int p.rank, .int (p.left - 1), .bl false])) := same_new nq
            have hb7 := s7 _ _ hb5
            refine ⟨lb, xb, _, rfl, rfl, hb7, by omega, ?_⟩
            have t8 := tk_lst (o := .lst (xb ++ [.ref q5])) hb7
            rw [eu]
            refine ⟨xk, _, _, _, _, _, rfl, same_mut (sm5.trans s7) b2, (upd_ne e1.symm).trans (s7 _ _ hk5), upd_same, (upd_ne e2).trans (s7 _ _ hg5), pair_mono (fun _ _ z => isPer_up t8 (isPer_up s7.tk z)) pk5,
              pair_app (pair_mono (fun _ _ z => isPer_up t8 (isPer_up s7.tk z)) pb5) (.cons ⟨q5, rfl, t8 _ _ upd_same⟩ .nil)⟩
          · have u' : ¬ h.rule = "turns" := fun e => u (decide_eq_true (congrArg V.str e))
            have eu : stepUp h.rule (pk h (ins h st b)) (ins h st b) (i + 1) = { stepUp h.rule (pk h (ins h st b)) (ins h st b) i with kept := (stepUp h.rule (pk h (ins h st b)) (ins h st b) i).kept ++ [⟨p.rank, p.left - 1, keepsB h.rule⟩] } := by
              show (if (i : Int) ∈ pk h (ins h st b) then _ else _) = _
              rw [if_pos c', ep, if_neg d', if_neg u']
            refine ⟨_, rfl, .inl ⟨rfl, _, SqL.of hk5⟩, _, rfl, _, rfl, _, _, rfl, rfl, _, rfl, h.rule, rfl, two, fun q5 nq => ?_⟩
            refine ⟨lk, xk, _, rfl, rfl, Eq.trans (upd_ne (ne_of_none hk5 nq)) hk5, by omega, ?_⟩
            rw [eu]
            obtain ⟨z1, z2, z3, z4, z5, z6⟩ := addk ⟨p.rank, p.left - 1, keepsB h.rule⟩ q5 H5 nq (Same.refl _) _ rfl
            exact ⟨_, xb, _, _, _, _, rfl, z1, z2, z3, z4, z5, z6⟩
    · rintro σ H4 ⟨xk, xb, w1, w2, w3, w4, rfl, sm, hk, hbl, hg, pk4, pb4⟩
      rw [ixl] at hg pk4 pb4
      have sul := stepUp_len h.rule (pk h (ins h st b)) (ins h st b) (ins h st b).length
      have kl := pk4.length
      have bl := pb4.length
      refine ⟨_, rfl, _, rfl, lk, lb, _, _, rfl, rfl, hk, hbl, by omega, fun c nc => ?_⟩
      have s5 : Same H4 (upd H4 c (.lst (xk ++ xb))) := same_new nc
      refine ⟨c, _, rfl, .inl ⟨SqL.of upd_same, fun d nd5 => ?_⟩⟩
      have s6 : Same (upd H4 c (.lst (xk ++ xb))) (upd (upd H4 c (.lst (xk ++ xb))) d (.tup (xk ++ xb))) := same_new nd5
      have hd : (upd (upd H4 c (.lst (xk ++ xb))) d (.tup (xk ++ xb))) d = some (.tup (xk ++ xb)) := upd_same
      have s7 := s5.trans s6
      clear s5 s6 nd5 nc
      generalize upd (upd H4 c (.lst (xk ++ xb))) d (.tup (xk ++ xb)) = H5 at *
      refine ⟨_, rfl, _, rfl, lg, _, rfl, .inl ⟨SqL.of (s7 _ _ hg), fun e ne5 => ?_⟩⟩
      have s8 : Same H5 (upd H5 e (.tup ((stepUp h.rule (pk h (ins h st b)) (ins h st b) (ins h st b).length).gone.map V.int))) := same_new ne5
      refine ⟨two, fun g ng => ?_⟩
      have s9 := same_new (o := .tup [.ref d, .int (lostN h st b : Nat), .ref e]) ng
      refine q _ _ (((sm2.trans sm).trans s7).trans (s8.trans s9)) ⟨g, .ref d, .ref e, rfl, upd_same, ?_, e, rfl, s9 _ _ upd_same⟩
      exact ⟨d, _, rfl, s9 _ _ (s8 _ _ hd), pair_app (pair_mono (fun _ _ z => isPer_up s9.tk (isPer_up s8.tk (isPer_up s7.tk z))) pk4) (pair_mono (fun _ _ z => isPer_up s9.tk (isPer_up s8.tk (isPer_up s7.tk z))) pb4)⟩
end
end Hw

/-! run, drained. -/
namespace Hw
open PySem HwB L2
/-- a way as beats for ever -/
def W (way : List (List Com)) (k : Nat) : List Com := way.getD k []
theorem W_get {way : List (List Com)} {k : Nat} {b : List Com} (h : way[k]? = some b) : W way k = b := by
  unfold W
  rw [List.getD_eq_getElem?_getD, h]
  rfl
theorem W_out {way : List (List Com)} {k : Nat} (h : way.length ≤ k) : W way k = [] := by
  unfold W
  rw [List.getD_eq_getElem?_getD, List.getElem?_eq_none h]
  rfl
theorem W_void (way : List (List Com)) (m : Nat) : W (way ++ List.replicate m []) = W way := by
  funext k
  by_cases h : k < way.length
  · unfold W
    rw [List.getD_eq_getElem?_getD, List.getElem?_append_left h, ← List.getD_eq_getElem?_getD]
  · rw [W_out (way := way) (by omega)]
    unfold W
    rw [List.getD_eq_getElem?_getD, List.getElem?_append_right (by omega), List.getElem?_replicate]
    split <;> rfl
/-- what is asked of a way -/
structure WOk (way : List (List Com)) : Prop where
  len : way.length ≤ 2000
  many : ∀ t, manyTo (W way) t ≤ 2000
section
variable {P : Program} {w : World} {K : PySem.W.Frag} {mg : Str → Option Value} {base : Heap}
def standsL (h : Hs) (way : List (List Com)) (n : Nat) : List (List Per) := (List.range n).map (S h (W way))
def lostL (h : Hs) (way : List (List Com)) (n : Nat) : List Int := (List.range n).map fun k => ((lostN h (S h (W way) k) (W way k) : Nat) : Int)
def goneL (h : Hs) (way : List (List Com)) (n : Nat) : List Int := (List.range n).map fun k => ((gn h (S h (W way) k) (W way k)).length : Int)
def isRun (H : Hp) (v : V) (h : Hs) (way : List (List Com)) : Prop := ∃ a x y z, v = .ref a ∧ H a = some (.tup [x, y, z]) ∧ isTup isSt H x (standsL h way (way.length + 1)) ∧ isInts H y (lostL h way way.length) ∧ isInts H z (goneL h way way.length)
def spRun : Sp := fun vs H Q _ => ∃ (h : Hs) (way : List (List Com)) (vh vw vst : V), vs = [vh, vw, vst] ∧ isHs H vh h ∧ isWay H vw way ∧ isSt H vst [] ∧ 0 ≤ h.hands ∧ WOk way ∧
  ∀ v H', Same H H' → isRun H' v h way → Q v H'
theorem scRun : FnScope ["house", "way", "stand", "stands", "lost", "gone", "beat", "behind", "missed", "left"] ["house", "way", "stand"] (defScope sRun) := ⟨rfl, rfl, rfl, by decide +kernel, rfl, by decide +kernel, by decide +kernel⟩
theorem range_map {α : Type} (f : Nat → α) (n : Nat) : (List.range (n + 1)).map f = (List.range n).map f ++ [f n] := by
  rw [List.range_succ, List.map_append]
  rfl
theorem ok_run {f : Addr} {fd : FuncData} (F : Fun K "run" "run" sRun f fd) (T : Blt mg) (CS : Has P w K mg base "step" 3 ["house", "stand", "beat"] spStep) :
    FnOk P w K mg base CX0 4 f fd ["house", "way", "stand"] spRun := by
  refine F.ok scRun (fun vs H Q E h => ?_) (fun cdv A outer s H vs Q E hr h => ?_)
  · obtain ⟨h, way, vh, vw, vst, rfl, _⟩ := h
    rfl
  · obtain ⟨h, way, vh, vw, vst, rfl, hH, hw, hst, h0, hW, q⟩ := h
    have nd := scRun.nd
    refine ⟨_, (pss_cons (ps_set (i := 3) nd rfl (Or.inl rfl) (pe_lst (pa_cons (pv 2) pa_nil)))
      (pss_cons (ps_set (i := 4) nd rfl (Or.inl rfl) (pe_lst pa_nil))
      (pss_cons (ps_set (i := 5) nd rfl (Or.inl rfl) (pe_lst pa_nil))
      (pss_cons (ps_for PassesOwn.never rfl (pi_tup (pv 1)) (pg_name (i := 6) nd rfl (Or.inl rfl)) (pss_cons (ps_asg (pe_has CS (hr.mono (by decide)) (pa_cons (pv 0) (pa_cons (pe_ix ix_list (pv 3) (pe_un un_neg pe_int) (fun _ _ => rfl)) (pa_cons (pv 6) pa_nil)))) (pg_tup rfl (pgs_cons (pg_name (i := 7) nd rfl (Or.inl rfl)) (pgs_cons (pg_name (i := 8) nd rfl (Or.inl rfl)) (pgs_cons (pg_name (i := 9) nd rfl (Or.inl rfl)) pgs_nil)))))
      (pss_cons (ps_expr (pe_bm PySem.F.plainAttrs_list PySem.F.slot_list_append PySem.F.type_list_append mt_append (pv 3) (pa_cons (pv 7) pa_nil)))
      (pss_cons (ps_expr (pe_bm PySem.F.plainAttrs_list PySem.F.slot_list_append PySem.F.type_list_append mt_append (pv 4) (pa_cons (pv 8) pa_nil)))
      (pss_one (ps_expr (pe_bm PySem.F.plainAttrs_list PySem.F.slot_list_append PySem.F.type_list_append mt_append (pv 5) (pa_cons (pe_callB call_len_seq (by rfl) T.len PySem.boot_len (pa_cons (pv 9) pa_nil)) pa_nil))))))))
      (pss_one (ps_ret (pe_tup (pa_cons (pe_callTy call_tuple_of (by rfl) T.tuple (by decide +kernel) (pa_cons (pv 3) pa_nil)) (pa_cons (pe_callTy call_tuple_of (by rfl) T.tuple (by decide +kernel) (pa_cons (pv 4) pa_nil)) (pa_cons (pe_callTy call_tuple_of (by rfl) T.tuple (by decide +kernel) (pa_cons (pv 5) pa_nil)) pa_nil)))))))))), ?_⟩
    have big : (10000 : Nat) < sizeLine := by decide
    obtain ⟨aw, wxs, rfl, haw, pw⟩ := id hw
    -- stands = [stand]; lost = []; gone = []
    refine ⟨_, rfl, (by show 1 ≤ sizeLine; decide), fun ls ns => ⟨Nat.zero_le _, fun ll nl => ⟨Nat.zero_le _, fun lg ng => ?_⟩⟩⟩
    have e1 : ll ≠ ls := (ne_of_none upd_same nl).symm
    have l0 : H ll = none := by rw [upd_ne e1] at nl; exact nl
    have e2 : lg ≠ ll := (ne_of_none upd_same ng).symm
    have g1 : (upd H ls (.lst [vst])) lg = none := by rw [upd_ne e2] at ng; exact ng
    have e3 : lg ≠ ls := (ne_of_none upd_same g1).symm
    have g0 : H lg = none := by rw [upd_ne e3] at g1; exact g1
    generalize hH3 : upd (upd (upd H ls (.lst [vst])) ll (.lst [])) lg (.lst []) = H3
    have s3 : Same H H3 := by
      rw [← hH3]
      exact same_mut (same_mut (same_new ns) l0) g0
    have k1 : H3 ls = some (.lst ([] ++ [vst])) := by rw [← hH3, upd_ne e3.symm, upd_ne e1.symm, upd_same]; rfl
    have k2 : H3 ll = some (.lst []) := by rw [← hH3, upd_ne e2.symm, upd_same]
    have k3 : H3 lg = some (.lst []) := by rw [← hH3, upd_same]
    have wl : wxs.length = way.length := pw.length
    have wlen := hW.len
    refine ⟨_, rfl, aw, rfl, ⟨_, SqT.of (s3 _ _ haw)⟩, for_tup (K := K) (a := aw) (xs := wxs)
      (fun i σ H' => ∃ xs v w1 w2 w3 w4, σ = [some vh, some (.ref aw), some vst, some (.ref ls), some (.ref ll), some (.ref lg), w1, w2, w3, w4] ∧ Same H H' ∧
        H' ls = some (.lst (xs ++ [v])) ∧ H' ll = some (.lst ((lostL h way i).map V.int)) ∧ H' lg = some (.lst ((goneL h way i).map V.int)) ∧ Paired (isSt H') xs (standsL h way i) ∧ isSt H' v (S h (W way) i))
      ⟨[], vst, none, none, none, none, rfl, s3, k1, k2, k3, .nil, isSt_up s3.tk hst⟩ (fun i σ H' _ ⟨_, _, _, _, _, _, _, sm, _⟩ => SqT.of (sm _ _ haw)) ?_ ?_⟩
    · rintro i x σ H4 hi ⟨xs, v, w1, w2, w3, w4, rfl, sm, h1, h2, h3, px, hv⟩
      obtain ⟨b, hb, hbx⟩ := pair_get pw hi
      have eb := W_get hb
      have il : i < way.length := (List.getElem?_eq_some_iff.mp hb).1
      have bound : (S h (W way) i).length + b.length ≤ 10000 := by
        have a1 := S_len h (W way) i
        have a2 := hW.many (i + 1)
        have a3 : manyTo (W way) (i + 1) = manyTo (W way) i + b.length := by rw [← eb]; rfl
        omega
      -- behind, missed, left = step(house, stands[-1], beat)
      refine ⟨_, rfl, _, rfl, ⟨_, rfl, ls, _, _, v, rfl, rfl, SqL.of h1, atI_last xs v, ?_⟩⟩
      refine ⟨_, rfl, h, S h (W way) i, b, _, _, _, rfl, isHs_up sm.tk hH, hv, isBt_up sm.tk hbx, h0, bound, fun v5 H5 s5 hv5 => ?_⟩
      obtain ⟨a5, x5, y5, rfl, ha5, hx5, ⟨ag, rfl, hag⟩⟩ := hv5
      refine ⟨a5, _, rfl, SqT.of ha5, rfl, _, _, rfl, _, _, rfl, _, _, rfl, rfl, ?_⟩
      have sm5 := sm.trans s5
      have xl : xs.length = i := by
        rw [px.length]
        unfold standsL
        rw [List.length_map, List.length_range]
      have ll' : (lostL h way i).length = i := by unfold lostL; rw [List.length_map, List.length_range]
      have gl' : (goneL h way i).length = i := by unfold goneL; rw [List.length_map, List.length_range]
      -- stands.append(behind)
      have j1 := s5 _ _ h1
      refine ⟨_, rfl, .inl ⟨rfl, _, SqL.of j1⟩, _, rfl, ls, _, _, rfl, rfl, j1, by rw [List.length_append, xl]; show i + 1 < sizeLine; omega, ?_⟩
      have t6 := tk_lst (o := .lst (xs ++ [v] ++ [x5])) j1
      have j2 : (upd H5 ls (.lst (xs ++ [v] ++ [x5]))) ll = some (.lst ((lostL h way i).map V.int)) := (upd_ne e1).trans (s5 _ _ h2)
      -- lost.append(missed)
      refine ⟨_, rfl, .inl ⟨rfl, _, SqL.of j2⟩, _, rfl, ll, _, _, rfl, rfl, j2, by rw [List.length_map, ll']; omega, ?_⟩
      have t7 := tk_lst (o := .lst ((lostL h way i).map V.int ++ [V.int (lostN h (S h (W way) i) b : Nat)])) j2
      generalize hH7 : upd (upd H5 ls (.lst (xs ++ [v] ++ [x5]))) ll (.lst ((lostL h way i).map V.int ++ [V.int (lostN h (S h (W way) i) b : Nat)])) = H7 at t7
      have sm7 : Same H H7 := by
        rw [← hH7]
        exact same_mut (same_mut sm5 ns) l0
      have j3 : H7 lg = some (.lst ((goneL h way i).map V.int)) := by rw [← hH7, upd_ne e2, upd_ne e3]; exact s5 _ _ h3
      have j1' : H7 ls = some (.lst (xs ++ [v] ++ [x5])) := by rw [← hH7, upd_ne e1.symm, upd_same]
      have j2' : H7 ll = some (.lst ((lostL h way i).map V.int ++ [V.int (lostN h (S h (W way) i) b : Nat)])) := by rw [← hH7, upd_same]
      -- gone.append(len(left))
      refine ⟨_, rfl, .inl ⟨rfl, _, SqL.of j3⟩, _, rfl, ag, _, rfl, .inr (SqT.of (t7 _ _ (t6 _ _ hag))), lg, _, _, rfl, rfl, j3, by rw [List.length_map, gl']; omega, ?_⟩
      have t8 := tk_lst (o := .lst ((goneL h way i).map V.int ++ [V.int ((((gn h (S h (W way) i) b).map V.int).length : Nat) : Int)])) j3
      refine ⟨xs ++ [v], x5, _, _, _, _, rfl, same_mut sm7 g0, (upd_ne e3.symm).trans j1', ?_, ?_, ?_, ?_⟩
      · rw [upd_ne e2.symm, j2']
        unfold lostL
        rw [range_map, List.map_append, eb]
        rfl
      · rw [upd_same]
        unfold goneL
        rw [range_map, List.map_append, eb, List.length_map]
        rfl
      · unfold standsL
        rw [range_map]
        exact pair_app (pair_mono (fun _ _ z => isSt_up t8 (isSt_up t7 (isSt_up t6 (isSt_up s5.tk z)))) px) (.cons (isSt_up t8 (isSt_up t7 (isSt_up t6 (isSt_up s5.tk hv)))) .nil)
      · have e : S h (W way) (i + 1) = nxt h (S h (W way) i) b := by rw [← eb]; rfl
        rw [e]
        exact isSt_up t8 (isSt_up t7 (isSt_up t6 hx5))
    · rintro σ H4 ⟨xs, v, w1, w2, w3, w4, rfl, sm, h1, h2, h3, px, hv⟩
      rw [wl] at h2 h3 px hv
      refine ⟨_, rfl, ls, _, rfl, .inl ⟨SqL.of h1, fun p1 n1 => ?_⟩⟩
      have s5 := same_new (o := .tup (xs ++ [v])) n1
      refine ⟨_, rfl, ll, _, rfl, .inl ⟨SqL.of (s5 _ _ h2), fun p2 n2 => ?_⟩⟩
      have s6 := same_new (o := .tup ((lostL h way way.length).map V.int)) n2
      refine ⟨_, rfl, lg, _, rfl, .inl ⟨SqL.of (s6 _ _ (s5 _ _ h3)), fun p3 n3 => ?_⟩⟩
      have s7 := same_new (o := .tup ((goneL h way way.length).map V.int)) n3
      refine ⟨(by show 3 ≤ sizeLine; decide), fun p4 n4 => ?_⟩
      have s8 := same_new (o := .tup [.ref p1, .ref p2, .ref p3]) n4
      have s58 := ((s5.trans s6).trans s7).trans s8
      refine q _ _ (sm.trans s58) ⟨p4, _, _, _, rfl, upd_same, ⟨p1, _, rfl, ((s6.trans s7).trans s8) _ _ upd_same, ?_⟩, ⟨p2, rfl, (s7.trans s8) _ _ upd_same⟩, ⟨p3, rfl, s8 _ _ upd_same⟩⟩
      unfold standsL
      rw [range_map]
      exact pair_app (pair_mono (fun _ _ z => isSt_up s58.tk z) px) (.cons (isSt_up s58.tk hv) .nil)
/-! ### drained -/
def spDrained : Sp := fun vs H Q _ => ∃ (h : Hs) (way : List (List Com)) (vh vw : V), vs = [vh, vw] ∧ isHs H vh h ∧ isWay H vw way ∧ 1 ≤ h.hands ∧ WOk way ∧ (∀ k, ∀ c ∈ W way k, 1 ≤ c.2) ∧ (∀ t, workTo (W way) t ≤ 900) ∧
  ∀ (m : Nat) v H', m ≤ 900 → S h (W way) (way.length + m) = [] → Same H H' → isWay H' v (way ++ List.replicate m []) → Q v H'
theorem scDrained : FnScope ["house", "way", "stand", "many"] ["house", "way"] (defScope sDrained) := ⟨rfl, rfl, rfl, by decide +kernel, rfl, by decide +kernel, by decide +kernel⟩
theorem pair_rep {α β : Type} {R : α → β → Prop} {x : α} {y : β} (h : R x y) : ∀ m, Paired R (List.replicate m x) (List.replicate m y)
  | 0 => .nil
  | m + 1 => .cons h (pair_rep h m)
theorem flat_rep {α : Type} (x : α) : ∀ m, (List.replicate m [x]).flatten = List.replicate m x
  | 0 => rfl
  | m + 1 => by
    show [x] ++ (List.replicate m [x]).flatten = x :: List.replicate m x
    rw [flat_rep x m]
    rfl
theorem ok_drained {f : Addr} {fd : FuncData} (F : Fun K "drained" "drained" sDrained f fd) (T : Blt mg) (CS : Has P w K mg base "step" 3 ["house", "stand", "beat"] spStep) (CR : Has P w K mg base "run" 4 ["house", "way", "stand"] spRun) :
    FnOk P w K mg base CX0 5 f fd ["house", "way"] spDrained := by
  refine F.ok scDrained (fun vs H Q E h => ?_) (fun cdv A outer s H vs Q E hr h => ?_)
  · obtain ⟨h, way, vh, vw, rfl, _⟩ := h
    rfl
  · obtain ⟨h, way, vh, vw, rfl, hH, hw, h1, hW, hpos, hwork, q⟩ := h
    have nd := scDrained.nd
    refine ⟨_, (pss_cons (ps_set (i := 2) nd rfl (Or.inl rfl) (pe_ix ix_tup (pe_ix ix_tup (pe_has CR (hr.mono (by decide)) (pa_cons (pv 0) (pa_cons (pv 1) (pa_cons (pe_tup pa_nil) pa_nil)))) pe_int (fun _ _ => rfl)) (pe_un un_neg pe_int) (fun _ _ => rfl)))
      (pss_cons (ps_set (i := 3) nd rfl (Or.inl rfl) pe_int)
      (pss_cons (ps_while PassesOwn.never (pt_cmpR (op_neD hr.units) (pv 2) (pe_tup pa_nil) (nomark _)) (pss_cons (ps_set (i := 2) nd rfl (Or.inl rfl) (pe_ix ix_tup (pe_has CS (hr.mono (by decide)) (pa_cons (pv 0) (pa_cons (pv 2) (pa_cons (pe_tup pa_nil) pa_nil)))) pe_int (fun _ _ => rfl)))
      (pss_one (ps_set (i := 3) nd rfl (Or.inl rfl) (pe_op op_add (pv 3) pe_int)))))
      (pss_one (ps_ret (pe_op op_catA (pv 1) (pe_op HwC.op_repA (pe_tup (pa_cons (pe_tup pa_nil) pa_nil)) (pv 3)))))))), ?_⟩
    have wlen := hW.len
    -- stand = run(house, way, ())[0][-1]
    refine ⟨_, rfl, _, rfl, Nat.zero_le _, fun p0 n0 => ?_⟩
    have s0 : Same H (upd H p0 (.tup [])) := same_new n0
    refine ⟨h, way, _, _, _, rfl, isHs_up s0.tk hH, isWay_up s0.tk hw, ⟨p0, [], rfl, upd_same, .nil⟩, by omega, hW, fun v1 H1 s1 hv1 => ?_⟩
    obtain ⟨a1, x1, y1, z1, rfl, ha1, ⟨ax, xxs, rfl, hax, px⟩, -, -⟩ := hv1
    refine ⟨a1, _, _, _, rfl, rfl, SqT.of ha1, atI_nat (j := 0) rfl, ?_⟩
    have lx : (standsL h way (way.length + 1))[way.length]? = some (S h (W way) way.length) := by
      unfold standsL
      rw [List.getElem?_map, List.getElem?_range (by omega)]
      rfl
    obtain ⟨vl, hvl, hsl⟩ := pair_get' px lx
    have xl : xxs.length = way.length + 1 := by
      rw [px.length]
      unfold standsL
      rw [List.length_map, List.length_range]
    have ex : xxs = xxs.dropLast ++ [vl] := by
      have hne : xxs ≠ [] := fun e => by rw [e] at xl; simp at xl
      have g := List.dropLast_concat_getLast hne
      rw [List.getLast_eq_getElem] at g
      have gv : xxs[xxs.length - 1]'(by omega) = vl := by
        have e2 : xxs.length - 1 = way.length := by omega
        have := (List.getElem?_eq_some_iff.mp hvl).2
        simp only [e2]
        exact this
      rw [gv] at g
      exact g.symm
    refine ⟨_, rfl, ax, xxs, _, vl, rfl, rfl, SqT.of hax, by rw [ex]; exact atI_last _ _, ?_⟩
    -- many = 0; the loop
    have sm1 := s0.trans s1
    refine ⟨fun m σ H' => ∃ (v : V) (k : Nat), σ = [some vh, some vw, some v, some (.int (k : Int))] ∧ Same H H' ∧ isSt H' v (S h (W way) (way.length + k)) ∧ m = wk (S h (W way) (way.length + k)) ∧ k + wk (S h (W way) (way.length + k)) ≤ 900,
      ⟨_, vl, 0, rfl, sm1, hsl, rfl, ?_⟩, ?_⟩
    · have a := (S_work (h := h) hpos way.length).2
      have b := hwork way.length
      show 0 + wk (S h (W way) (way.length + 0)) ≤ 900
      rw [Nat.add_zero]
      omega
    rintro m σ H2 ⟨v, k, rfl, sm2, hv, rfl, hk⟩
    -- stand != ()
    refine ⟨_, rfl, Nat.zero_le _, fun p2 n2 => ?_⟩
    have s3 : Same H2 (upd H2 p2 (.tup [])) := same_new n2
    refine ne_nobody (isSt_up s3.tk hv) upd_same ⟨_, rfl, ?_⟩
    have sm3 := sm2.trans s3
    have hv3 := isSt_up s3.tk hv
    clear s3 n2 hv sm2
    generalize upd H2 p2 (.tup []) = H3 at sm3 hv3
    refine ite2 (fun c => ?_) (fun c => ?_)
    · have hne : S h (W way) (way.length + k) ≠ [] := fun e => by
        rw [e] at c
        cases c
      have step1 : S h (W way) (way.length + (k + 1)) = nxt h (S h (W way) (way.length + k)) [] := by
        show nxt h (S h (W way) (way.length + k)) (W way (way.length + k)) = _
        rw [W_out (by omega)]
      have less := void_less h1 (S_work (h := h) hpos (way.length + k)).1 hne
      refine ⟨fun σ' H' => ∃ v', σ' = [some vh, some vw, some v', some (.int ((k + 1 : Nat) : Int))] ∧ Same H H' ∧ isSt H' v' (S h (W way) (way.length + (k + 1))), ?_, ?_⟩
      · rintro σ' H' ⟨v', rfl, sm', hv'⟩
        refine ⟨wk (S h (W way) (way.length + (k + 1))), by rw [step1]; omega, v', k + 1, rfl, sm', hv', rfl, by rw [step1]; omega⟩
      · -- stand = step(house, stand, ())[0]
        refine ⟨_, rfl, _, rfl, Nat.zero_le _, fun p4 n4 => ?_⟩
        have s4 : Same H3 (upd H3 p4 (.tup [])) := same_new n4
        refine ⟨h, _, [], _, _, _, rfl, isHs_up (sm3.trans s4).tk hH, isSt_up s4.tk hv3, ⟨p4, [], rfl, upd_same, .nil⟩, by omega, ?_, fun v5 H5 s5 hv5 => ?_⟩
        · have a := S_len h (W way) (way.length + k)
          have b := hW.many (way.length + k)
          show _ + 0 ≤ _
          omega
        obtain ⟨a5, x5, y5, rfl, ha5, hx5, -⟩ := hv5
        refine ⟨a5, _, _, _, rfl, rfl, SqT.of ha5, atI_nat (j := 0) rfl, ?_⟩
        refine ⟨_, rfl, _, _, rfl, rfl, ?_⟩
        refine ⟨x5, ?_, (sm3.trans s4).trans s5, ?_⟩
        · have e : ((k : Int) + 1) = ((k + 1 : Nat) : Int) := by omega
          rw [← e]
          rfl
        · rw [step1]
          exact hx5
    · have he : S h (W way) (way.length + k) = [] := by
        cases e : S h (W way) (way.length + k) with
        | nil => rfl
        | cons a r =>
          rw [e] at c
          exact absurd rfl c
      -- way + ((),) * many
      obtain ⟨aw, wxs, rfl, haw, pw⟩ := id hw
      refine ⟨_, rfl, Nat.zero_le _, fun p4 n4 => ?_⟩
      have s4 : Same H3 (upd H3 p4 (.tup [])) := same_new n4
      refine ⟨(by show 1 ≤ sizeLine; decide), fun p5 n5 => ?_⟩
      have s5 := same_new (o := .tup [.ref p4]) n5
      refine ⟨_, rfl, p5, (k : Int), _, rfl, rfl, upd_same, by simp, by omega, by omega, by simp, fun p6 ys hys H6 s6 hT6 => ?_⟩
      rw [Int.toNat_natCast, flat_rep] at hys
      subst hys
      have s46 := (s4.trans s5).trans s6
      have hv4 : isBt H6 (.ref p4) [] := ⟨p4, [], rfl, (s5.trans s6) _ _ upd_same, .nil⟩
      have wl : wxs.length = way.length := pw.length
      have pw6 := pair_mono (fun _ _ z => isBt_up (sm3.trans s46).tk z) pw
      have haw6 := (sm3.trans s46) _ _ haw
      have big : (10000 : Nat) < sizeLine := by decide
      have fin : ∀ p H7, Same H6 H7 → H7 p = some (.tup (wxs ++ List.replicate k (.ref p4))) → Q (.ref p) H7 := fun p H7 s7 h7 =>
        q k _ H7 (by omega) he ((sm3.trans s46).trans s7) ⟨p, _, rfl, h7, pair_app (pair_mono (fun _ _ z => isBt_up s7.tk z) pw6) (pair_rep (isBt_up s7.tk hv4) k)⟩
      have pl : (List.replicate k (V.ref p4)).length = k := List.length_replicate
      refine ⟨aw, p6, wxs, _, rfl, rfl, SqT.of haw6, SqT.of hT6, by omega, fun e => ?_, fun e1 e2 => ?_, fun e1 e2 p7 n7 => ?_⟩
      · refine fin p6 H6 (Same.refl _) ?_
        rw [e]
        exact hT6
      · refine fin aw H6 (Same.refl _) ?_
        rw [e2, List.append_nil]
        exact haw6
      · exact fin p7 _ (same_new n7) upd_same
end
end Hw

/-! names_behind. -/
namespace Hw
open PySem HwB L2
abbrev natV (n : Nat) : V := .int (n : Int)
section
variable {P : Program} {w : World} {K : PySem.W.Frag} {mg : Str → Option Value} {base : Heap}
def spNames : Sp := fun vs H Q _ => ∃ (r : Str) (an : Addr) (names : List Nat) (vp vg : V) (pl go : List Int), vs = [.str r, .ref an, vp, vg] ∧ H an = some (.lst (names.map natV)) ∧ isInts H vp pl ∧ isInts H vg go ∧
  names.length ≤ 10000 ∧ pl.length ≤ 10000 ∧ (∀ z ∈ pl, 0 ≤ z ∧ z < (names.length : Int)) ∧ ∀ p H', H p = none → Same H H' → H' p = some (.lst ((nb r names pl go).map natV)) → Q (.ref p) H'
abbrev nNames : List Str := ["rule", "names", "places", "gone", "waiting", "place", "name"]
theorem scNames : FnScope nNames ["rule", "names", "places", "gone"] (defScope sNames) := ⟨rfl, rfl, rfl, by decide +kernel, rfl, by decide +kernel, by decide +kernel⟩
theorem gv_len {α : Type} (n : Nat) (f : Nat → Bool) (v : Nat → α) : (gv n f v).length ≤ n := by
  unfold gv
  rw [List.length_map]
  have h := List.length_filter_le f (List.range n)
  rw [List.length_range] at h
  exact h
/-- one turn of a comprehension that keeps some -/
theorem gv_turn {α : Type} {g : α → V} {n : Nat} {f : Nat → Bool} {v : Nat → α} {H0 H' : Hp} {D : Addr} (hn : n < 20000) (h0 : H0 D = none) (sm : Same H0 H') (hD : H' D = some (.lst ((gv n f v).map g))) :
    (f n = true → ∃ acc, H' D = some (.lst acc) ∧ acc.length < sizeLine ∧ Same H0 (upd H' D (.lst (acc ++ [g (v n)]))) ∧ (upd H' D (.lst (acc ++ [g (v n)]))) D = some (.lst ((gv (n + 1) f v).map g))) ∧
    (f n = false → Same H0 H' ∧ H' D = some (.lst ((gv (n + 1) f v).map g))) := by
  have big : (20000 : Nat) < sizeLine := by decide
  have l := gv_len n f v
  refine ⟨fun hf => ⟨_, hD, by rw [List.length_map]; omega, same_mut sm h0, ?_⟩, fun hf => ⟨sm, ?_⟩⟩
  · rw [upd_same, gv_yes hf, List.map_append]
    rfl
  · rw [gv_no hf]
    exact hD
theorem nat_at {names : List Nat} {i : Nat} (hi : i < names.length) : (names.map natV)[i]? = some (natV (names.getD i 0)) := by
  rw [List.getElem?_map, List.getElem?_eq_getElem hi, List.getD_eq_getElem?_getD, List.getElem?_eq_getElem hi]
  rfl
theorem ok_names {f : Addr} {fd : FuncData} (F : Fun K "names_behind" "names_behind" sNames f fd) (T : Blt mg) : FnOk P w K mg base CX0 1 f fd ["rule", "names", "places", "gone"] spNames := by
  refine F.ok scNames (fun vs H Q E h => ?_) (fun cdv A outer s H vs Q E hr h => ?_)
  · obtain ⟨r, an, names, vp, vg, pl, go, rfl, _⟩ := h
    rfl
  · obtain ⟨r, an, names, vp, vg, pl, go, rfl, hn, ⟨ap, rfl, hp⟩, ⟨ag, rfl, hg⟩, ln, lp, hin, q⟩ := h
    have nd := scNames.nd
    refine ⟨_, (pss_cons (ps_if (pt_cmpR op_ne (pv 0) pe_str (nomark _)) (pss_one (ps_ret (pe_lc (own := [("place", 5), ("name", 6)]) (g := (gTup K 2 (gCons (gName 5) (gCons (gName 6) gNil)))) rfl nd (pi_enum (by rfl) T.enumerate (pa_cons (pv 1) pa_nil)) (blkOk_by (N := nNames) (sc := defScope sNames) (by decide +kernel)) (fun _ _ _ _ _ => (pg_tup rfl (pgs_cons (pg_name (i := 5) nd rfl (Or.inl rfl)) (pgs_cons (pg_name (i := 6) nd rfl (Or.inl rfl)) pgs_nil)))) (fun _ _ _ _ _ => (pts_one (pt_cmpR (show OpR _ (compareOp .NotIn) (rIn K true) from op_notIn_seq) (pv 5) (pv 3) (by rfl)))) (fun _ _ _ _ _ => (pv 6))))) pss_nil)
      (pss_cons (ps_setLc (i := 4) (own := [("place", 5), ("name", 6)]) (g := (gTup K 2 (gCons (gName 5) (gCons (gName 6) gNil)))) rfl nd rfl rfl (sw_true rfl rfl rfl (by decide +kernel)) (pi_enum (by rfl) T.enumerate (pa_cons (pv 1) pa_nil)) (blkOk_by (N := nNames) (sc := defScope sNames) (by decide +kernel)) (fun _ _ _ _ _ => (pg_tup rfl (pgs_cons (pg_name (i := 5) nd rfl (Or.inl rfl)) (pgs_cons (pg_name (i := 6) nd rfl (Or.inl rfl)) pgs_nil)))) (fun _ _ _ _ _ => (pts_one (pt_cmpR (show OpR _ (compareOp .NotIn) (rIn K true) from op_notIn_seq) (pv 5) (pv 2) (by rfl)))) (fun _ _ _ _ _ => (pv 6)))
      (pss_one (ps_ret (pe_op op_cat (pv 4) (pe_lc (own := [("place", 5)]) (g := (gName 5)) rfl nd (pi_tup (pv 2)) (blkOk_by (N := nNames) (sc := defScope sNames) (by decide +kernel)) (fun _ _ _ _ _ => (pg_name (i := 5) nd rfl (Or.inl rfl))) (fun _ _ _ _ _ => (pts_one (pt_cmpR (show OpR _ (compareOp .NotIn) (rIn K true) from op_notIn_seq) (pv 5) (pv 3) (by rfl)))) (fun _ _ _ _ _ => (pe_ix (show IxR _ (rIxL K) from ix_list) (pv 1) (pv 5) (fun _ _ => rfl))))))))), ?_⟩
    -- rule != 'turns'
    refine ⟨_, rfl, rfl, _, rfl, ite2 (fun c => ?_) (fun c => ?_)⟩
    · have c' : ¬ r = "turns" := fun e => by
        have z : (!decide (V.str r = V.str "turns")) = true := c
        rw [decide_eq_true (congrArg V.str e)] at z
        cases z
      refine ⟨_, rfl, an, _, rfl, SqL.of hn, fun D hD => ?_⟩
      refine lc_it walk_enum (fun i H' => Same H H' ∧ H' D = some (.lst ((gv i (fun k => !decide ((k : Int) ∈ go)) (fun k => names.getD k 0)).map natV))) ⟨same_new hD, upd_same⟩ (fun i H' _ ⟨sm, _⟩ => SqL.of (sm _ _ hn)) ?_ ?_
      · rintro i x H1 H2 hi ⟨sm, hd⟩ ⟨t, y1, y2, rfl, nt, rfl, ey1, ey2⟩
        obtain rfl : V.int (i : Nat) = y1 := Option.some.inj ey1
        have s2 : Same H1 (upd H1 t (.tup [.int (i : Nat), y2])) := same_new nt
        rw [List.length_map] at hi
        have e2 : natV (names.getD i 0) = y2 := Option.some.inj ((nat_at hi).symm.trans ey2)
        subst e2
        refine ⟨t, _, rfl, SqT.of upd_same, rfl, _, _, rfl, _, _, rfl, rfl, rfl, ?_⟩
        obtain ⟨g1, g2⟩ := gv_turn (g := natV) (n := i) (by omega) hD (sm.trans s2) (s2 _ _ hd)
        refine ⟨_, rfl, _, rfl, ag, _, rfl, .inr (SqT.of (s2 _ _ (sm _ _ hg))), rfl, flat_ints _, _, rfl, ?_⟩
        have e3 : inV (.int (i : Nat)) (go.map V.int) = decide ((i : Int) ∈ go) := inV_ints _ _
        refine ite2 (fun d => ⟨_, rfl, g1 ?_⟩) (fun d => g2 ?_)
        · rw [← e3]
          exact d
        · rw [← e3]
          exact (Bool.not_eq_true _).mp d
      · rintro H1 ⟨sm, hd⟩
        refine q D H1 hD sm ?_
        rw [hd, List.length_map]
        unfold nb
        rw [if_neg c']
    · have c' : r = "turns" := Classical.byContradiction fun e => c (by
        show (!decide (V.str r = V.str "turns")) = true
        rw [decide_eq_false fun z => e (V.str.inj z)]
        rfl)
      refine ⟨_, rfl, an, _, rfl, SqL.of hn, fun D hD => ?_⟩
      refine lc_it walk_enum (fun i H' => Same H H' ∧ H' D = some (.lst ((gv i (fun k => !decide ((k : Int) ∈ pl)) (fun k => names.getD k 0)).map natV))) ⟨same_new hD, upd_same⟩ (fun i H' _ ⟨sm, _⟩ => SqL.of (sm _ _ hn)) ?_ ?_
      · rintro i x H1 H2 hi ⟨sm, hd⟩ ⟨t, y1, y2, rfl, nt, rfl, ey1, ey2⟩
        obtain rfl : V.int (i : Nat) = y1 := Option.some.inj ey1
        have s2 : Same H1 (upd H1 t (.tup [.int (i : Nat), y2])) := same_new nt
        rw [List.length_map] at hi
        have e2 : natV (names.getD i 0) = y2 := Option.some.inj ((nat_at hi).symm.trans ey2)
        subst e2
        refine ⟨t, _, rfl, SqT.of upd_same, rfl, _, _, rfl, _, _, rfl, rfl, rfl, ?_⟩
        obtain ⟨g1, g2⟩ := gv_turn (g := natV) (n := i) (by omega) hD (sm.trans s2) (s2 _ _ hd)
        refine ⟨_, rfl, _, rfl, ap, _, rfl, .inr (SqT.of (s2 _ _ (sm _ _ hp))), rfl, flat_ints _, _, rfl, ?_⟩
        have e3 : inV (.int (i : Nat)) (pl.map V.int) = decide ((i : Int) ∈ pl) := inV_ints _ _
        refine ite2 (fun d => ⟨_, rfl, g1 ?_⟩) (fun d => g2 ?_)
        · rw [← e3]
          exact d
        · rw [← e3]
          exact (Bool.not_eq_true _).mp d
      · rintro H1 ⟨sm, hd⟩
        rw [List.length_map] at hd
        -- waiting + [..]
        refine ⟨_, rfl, ⟨_, rfl, ap, rfl, ⟨_, SqT.of (sm _ _ hp)⟩, fun D2 hD2 => ?_⟩⟩
        refine lc_tup (K := K) (a := ap) (xs := pl.map V.int) (fun i H' => Same H1 H' ∧ H' D2 = some (.lst ((gv i (fun j => !decide (pl.getD j 0 ∈ go)) (fun j => names.getD (pl.getD j 0).toNat 0)).map natV)))
          ⟨same_new hD2, upd_same⟩ (fun i H' _ ⟨sm2, _⟩ => SqT.of (sm2 _ _ (sm _ _ hp))) ?_ ?_
        · rintro i x H2 hi ⟨sm2, hd2⟩
          have il : i < pl.length := by
            have z := (List.getElem?_eq_some_iff.mp hi).1
            rw [List.length_map] at z
            exact z
          have ez : V.int (pl.getD i 0) = x := by
            rw [List.getElem?_map, List.getElem?_eq_getElem il] at hi
            rw [List.getD_eq_getElem?_getD, List.getElem?_eq_getElem il]
            exact Option.some.inj hi
          subst ez
          have zin : pl.getD i 0 ∈ pl := by
            rw [List.getD_eq_getElem?_getD, List.getElem?_eq_getElem il]
            exact List.getElem_mem il
          obtain ⟨z0, z1⟩ := hin _ zin
          obtain ⟨g1, g2⟩ := gv_turn (g := natV) (n := i) (v := fun j => names.getD (pl.getD j 0).toNat 0) (by omega) hD2 sm2 hd2
          refine ⟨rfl, ?_⟩
          refine ⟨_, rfl, _, rfl, ag, _, rfl, .inr (SqT.of (sm2 _ _ (sm _ _ hg))), rfl, flat_ints _, _, rfl, ?_⟩
          have e3 : inV (.int (pl.getD i 0)) (go.map V.int) = decide (pl.getD i 0 ∈ go) := inV_ints _ _
          refine ite2 (fun d => ?_) (fun d => g2 ?_)
          · refine ⟨_, rfl, _, rfl, an, _, _, natV (names.getD (pl.getD i 0).toNat 0), rfl, rfl, SqL.of (sm2 _ _ (sm _ _ hn)), ?_, g1 ?_⟩
            · exact at_of (j := (pl.getD i 0).toNat) (by omega) (nat_at (by omega))
            · rw [← e3]
              exact d
          · rw [← e3]
            exact (Bool.not_eq_true _).mp d
        · rintro H2 ⟨sm2, hd2⟩
          rw [List.length_map] at hd2
          have big : (20000 : Nat) < sizeLine := by decide
          have l1 := gv_len names.length (fun k => !decide ((k : Int) ∈ pl)) (fun k => names.getD k 0)
          have l2 := gv_len pl.length (fun j => !decide (pl.getD j 0 ∈ go)) (fun j => names.getD (pl.getD j 0).toNat 0)
          refine ⟨D, D2, _, _, rfl, rfl, sm2 _ _ hd, hd2, by rw [List.length_map, List.length_map]; omega, fun p np => ?_⟩
          refine q p _ ((sm.trans sm2).free np) ((sm.trans sm2).trans (same_new np)) ?_
          rw [upd_same]
          unfold nb
          rw [if_pos c', List.map_append]
end
end Hw

/-! The follower's data: its attributes, its rows; what stays when one of them changes. -/
namespace Hw
open PySem HwB L2
/-! ### the attributes -/
def ff (a b c d e : V) : List (Str × V) := [("follow_house", a), ("follow_stand", b), ("follow_names", c), ("follow_rows", d), ("follow_moment", e)]
theorem hs_ne : ¬ (("follow_house" : Str) = "follow_stand") := by decide +kernel
theorem hn_ne : ¬ (("follow_house" : Str) = "follow_names") := by decide +kernel
theorem hr_ne : ¬ (("follow_house" : Str) = "follow_rows") := by decide +kernel
theorem hm_ne : ¬ (("follow_house" : Str) = "follow_moment") := by decide +kernel
theorem sn_ne : ¬ (("follow_stand" : Str) = "follow_names") := by decide +kernel
theorem sr_ne : ¬ (("follow_stand" : Str) = "follow_rows") := by decide +kernel
theorem sm_ne : ¬ (("follow_stand" : Str) = "follow_moment") := by decide +kernel
theorem nr_ne : ¬ (("follow_names" : Str) = "follow_rows") := by decide +kernel
theorem nm_ne : ¬ (("follow_names" : Str) = "follow_moment") := by decide +kernel
theorem rm_ne : ¬ (("follow_rows" : Str) = "follow_moment") := by decide +kernel
theorem lk_hit {f : Str} {v : V} {r : List (Str × V)} : List.lookup f ((f, v) :: r) = some v := by
  rw [List.lookup_cons, beq_self_eq_true]
theorem lk_miss {f g : Str} {v : V} {r : List (Str × V)} (h : ¬ g = f) : List.lookup f ((g, v) :: r) = List.lookup f r := by
  have : (f == g) = false := beq_eq_false_iff_ne.mpr fun e => h e.symm
  rw [List.lookup_cons, this]
section
variable {a b c d e x : V}
theorem ff_h : (ff a b c d e).lookup ("follow_house" : Str) = some a := lk_hit
theorem ff_s : (ff a b c d e).lookup ("follow_stand" : Str) = some b := (lk_miss hs_ne).trans lk_hit
theorem ff_n : (ff a b c d e).lookup ("follow_names" : Str) = some c := (lk_miss hn_ne).trans ((lk_miss sn_ne).trans lk_hit)
theorem ff_r : (ff a b c d e).lookup ("follow_rows" : Str) = some d := (lk_miss hr_ne).trans ((lk_miss sr_ne).trans ((lk_miss nr_ne).trans lk_hit))
theorem ff_m : (ff a b c d e).lookup ("follow_moment" : Str) = some e := (lk_miss hm_ne).trans ((lk_miss sm_ne).trans ((lk_miss nm_ne).trans ((lk_miss rm_ne).trans lk_hit)))
theorem put_hit {f : Str} {v y : V} {r : List (Str × V)} : putF f v ((f, y) :: r) = (f, v) :: r := by
  unfold putF
  rw [if_pos rfl]
theorem put_miss {f g : Str} {v y : V} {r : List (Str × V)} (h : ¬ g = f) : putF f v ((g, y) :: r) = (g, y) :: putF f v r := by
  rw [putF, if_neg h]
theorem put_lt {f : Str} {v : V} {n : Nat} : ∀ {fs : List (Str × V)}, fs.length < n → (putF f v fs).length < n + 1
  | [], h => by
    show 1 < n + 1
    have : 0 < n := h
    omega
  | (g, y) :: r, h => by
    unfold putF
    split
    · exact Nat.lt_succ_of_lt h
    · have : r.length + 1 < n := h
      have ih := put_lt (f := f) (v := v) (n := n - 1) (fs := r) (by omega)
      show (putF f v r).length + 1 < n + 1
      omega
theorem ff_ps : putF "follow_stand" x (ff a b c d e) = ff a x c d e := by
  unfold ff
  rw [put_miss hs_ne, put_hit]
theorem ff_pn : putF "follow_names" x (ff a b c d e) = ff a b x d e := by
  unfold ff
  rw [put_miss hn_ne, put_miss sn_ne, put_hit]
theorem ff_pm : putF "follow_moment" x (ff a b c d e) = ff a b c d x := by
  unfold ff
  rw [put_miss hm_ne, put_miss sm_ne, put_miss nm_ne, put_miss rm_ne, put_hit]
theorem ff_0 : putF "follow_moment" e (putF "follow_rows" d (putF "follow_names" c (putF "follow_stand" b (putF "follow_house" a [])))) = ff a b c d e := by
  have h1 : putF "follow_house" a [] = ([("follow_house", a)] : List (Str × V)) := rfl
  have h2 : putF "follow_stand" b ([("follow_house", a)] : List (Str × V)) = ([("follow_house", a), ("follow_stand", b)] : List (Str × V)) := by rw [put_miss hs_ne]; rfl
  have h3 : putF "follow_names" c ([("follow_house", a), ("follow_stand", b)] : List (Str × V)) = ([("follow_house", a), ("follow_stand", b), ("follow_names", c)] : List (Str × V)) := by rw [put_miss hn_ne, put_miss sn_ne]; rfl
  have h4 : putF "follow_rows" d ([("follow_house", a), ("follow_stand", b), ("follow_names", c)] : List (Str × V)) = ([("follow_house", a), ("follow_stand", b), ("follow_names", c), ("follow_rows", d)] : List (Str × V)) := by
    rw [put_miss hr_ne, put_miss sr_ne, put_miss nr_ne]
    rfl
  rw [h1, h2, h3, h4, put_miss hm_ne, put_miss sm_ne, put_miss nm_ne, put_miss rm_ne]
  rfl
theorem ff_no {m : Str} (h1 : ¬ ("follow_house" : Str) = m) (h2 : ¬ ("follow_stand" : Str) = m) (h3 : ¬ ("follow_names" : Str) = m) (h4 : ¬ ("follow_rows" : Str) = m) (h5 : ¬ ("follow_moment" : Str) = m) : (ff a b c d e).lookup m = none :=
  (lk_miss h1).trans ((lk_miss h2).trans ((lk_miss h3).trans ((lk_miss h4).trans ((lk_miss h5).trans rfl))))
end
theorem ff_take {a b c d e : V} : (ff a b c d e).lookup ("take_beat" : Str) = none := ff_no (by decide +kernel) (by decide +kernel) (by decide +kernel) (by decide +kernel) (by decide +kernel)
theorem ff_course {a b c d e : V} : (ff a b c d e).lookup ("course_of" : Str) = none := ff_no (by decide +kernel) (by decide +kernel) (by decide +kernel) (by decide +kernel) (by decide +kernel)

/-! ### the rows -/
def gV : Option Nat → V
  | none => .non
  | some m => .int (m : Int)
def rowV (r : Row) : List V := [.int (r.beat : Int), .bl r.ent, .int (r.wts : Int), gV r.gone]
theorem nat_row (l : List Nat) (r : Row) : HO.lst (l.map natV) ≠ HO.lst (rowV r) := by
  intro e
  have e' := HO.lst.inj e
  match l, e' with
  | [], e' => cases e'
  | [_], e' => cases e'
  | _ :: _ :: _, e' =>
    have := (List.cons.inj (List.cons.inj e').2).1
    cases this
theorem ref_row (as : List Addr) (r : Row) : HO.lst (as.map V.ref) ≠ HO.lst (rowV r) := by
  intro e
  have e' := HO.lst.inj e
  match as, e' with
  | [], e' => cases e'
  | _ :: _, e' =>
    have := (List.cons.inj e').1
    cases this

/-- a follower stands at p over what stood at H0: its attributes, its names, its rows -/
structure FolAt (C : Addr) (H0 H : Hp) (p dx : Addr) (vh vs : V) (ln rl : Addr) (as : List Addr) (t : Nat) (names : List Nat) (rows : List Row) : Prop where
  sm : Same H0 H
  p0 : H0 p = none
  n0 : H0 ln = none
  rz : H0 rl = none
  a0 : ∀ a ∈ as, H0 a = none
  ob : H p = some (.ins C dx (ff vh vs (.ref ln) (.ref rl) (.int (t : Int))))
  nm : H ln = some (.lst (names.map natV))
  rw : H rl = some (.lst (as.map V.ref))
  ne : ln ≠ rl
  nd : as.Nodup
  len : as.length = rows.length
  at_ : ∀ (j : Nat) a, as[j]? = some a → H a = some (.lst (rowV (rows.getD j r0)))
section
variable {C p dx ln rl : Addr} {H0 H H' : Hp} {vh vs : V} {as : List Addr} {t : Nat} {names : List Nat} {rows : List Row}
theorem FolAt.grow (A : FolAt C H0 H p dx vh vs ln rl as t names rows) (s : Same H H') : FolAt C H0 H' p dx vh vs ln rl as t names rows :=
  ⟨A.sm.trans s, A.p0, A.n0, A.rz, A.a0, s _ _ A.ob, s _ _ A.nm, s _ _ A.rw, A.ne, A.nd, A.len, fun j a h => s _ _ (A.at_ j a h)⟩
theorem FolAt.notin (A : FolAt C H0 H p dx vh vs ln rl as t names rows) {q : Addr} {l : List Nat} (h : H q = some (.lst (l.map natV))) : q ∉ as := fun hm => by
  obtain ⟨j, hj⟩ := List.getElem?_of_mem hm
  have := A.at_ j q hj
  rw [h] at this
  exact nat_row _ _ (Option.some.inj this)
theorem FolAt.rl_notin (A : FolAt C H0 H p dx vh vs ln rl as t names rows) : rl ∉ as := fun hm => by
  obtain ⟨j, hj⟩ := List.getElem?_of_mem hm
  have := A.at_ j rl hj
  rw [A.rw] at this
  exact ref_row _ _ (Option.some.inj this)
theorem FolAt.p_ne (A : FolAt C H0 H p dx vh vs ln rl as t names rows) {q : Addr} {l : List V} (h : H q = some (.lst l)) : p ≠ q := ne_of A.ob h (by intro e; cases e)
/-- a new row at q -/
theorem FolAt.push (A : FolAt C H0 H p dx vh vs ln rl as t names rows) {q : Addr} {r : Row} (hq : H q = none) :
    FolAt C H0 (upd (upd H q (.lst (rowV r))) rl (.lst (as.map V.ref ++ [.ref q]))) p dx vh vs ln rl (as ++ [q]) t names (rows ++ [r]) := by
  have n1 : rl ≠ q := ne_of_none A.rw hq
  have n2 : p ≠ q := ne_of_none A.ob hq
  have n3 : ln ≠ q := ne_of_none A.nm hq
  have n4 := A.p_ne A.rw
  have hq0 := A.sm.free hq
  refine ⟨same_mut (same_mut A.sm hq0) A.rz, A.p0, A.n0, A.rz, fun a ha => ?_, ?_, ?_, ?_, A.ne, ?_, ?_, fun j a h => ?_⟩
  · rcases List.mem_append.mp ha with z | z
    · exact A.a0 a z
    · rw [List.mem_singleton.mp z]
      exact hq0
  · rw [upd_ne n4, upd_ne n2]
    exact A.ob
  · rw [upd_ne A.ne, upd_ne n3]
    exact A.nm
  · rw [upd_same, List.map_append]
    rfl
  · refine List.nodup_append.mpr ⟨A.nd, by simp, fun a ha b hb e => ?_⟩
    rw [List.mem_singleton.mp hb] at e
    subst e
    obtain ⟨j, hj⟩ := List.getElem?_of_mem ha
    rw [A.at_ j a hj] at hq
    cases hq
  · rw [List.length_append, List.length_append, A.len]
    rfl
  · by_cases hj : j < as.length
    · rw [List.getElem?_append_left hj] at h
      have ha := A.at_ j a h
      have na : a ≠ rl := fun e => A.rl_notin (e ▸ List.mem_of_getElem? h)
      rw [upd_ne na, upd_ne (ne_of_none ha hq), List.getD_eq_getElem?_getD, List.getElem?_append_left (by rw [← A.len]; exact hj), ← List.getD_eq_getElem?_getD]
      exact ha
    · rw [List.getElem?_append_right (by omega)] at h
      have hj2 : j - as.length = 0 := by
        have := (List.getElem?_eq_some_iff.mp h).1
        simp at this
        omega
      rw [hj2] at h
      have ea : q = a := Option.some.inj h
      subst ea
      rw [upd_ne n1.symm, upd_same, List.getD_eq_getElem?_getD, List.getElem?_append_right (by rw [← A.len]; omega), ← A.len, hj2]
      rfl
/-- a row is changed -/
theorem FolAt.put (A : FolAt C H0 H p dx vh vs ln rl as t names rows) {j : Nat} {a : Addr} {r : Row} (ha : as[j]? = some a) : FolAt C H0 (upd H a (.lst (rowV r))) p dx vh vs ln rl as t names (rows.set j r) := by
  have hm := List.mem_of_getElem? ha
  have hl := A.at_ j a ha
  have jl : j < as.length := (List.getElem?_eq_some_iff.mp ha).1
  refine ⟨same_mut A.sm (A.a0 a hm), A.p0, A.n0, A.rz, A.a0, ?_, ?_, ?_, A.ne, A.nd, by rw [List.length_set]; exact A.len, fun i b h => ?_⟩
  · rw [upd_ne (A.p_ne hl)]
    exact A.ob
  · have n1 : ln ≠ a := fun e => A.notin A.nm (by rw [e]; exact hm)
    rw [upd_ne n1]
    exact A.nm
  · have n1 : rl ≠ a := fun e => A.rl_notin (by rw [e]; exact hm)
    rw [upd_ne n1]
    exact A.rw
  · by_cases hij : i = j
    · subst hij
      rw [ha] at h
      cases h
      rw [upd_same, List.getD_eq_getElem?_getD, List.getElem?_set_self (by rw [← A.len]; exact jl)]
      rfl
    · have hne : b ≠ a := fun e => hij (nd_ix A.nd h (e ▸ ha))
      rw [upd_ne hne, List.getD_eq_getElem?_getD, List.getElem?_set_ne (Ne.symm hij), ← List.getD_eq_getElem?_getD]
      exact A.at_ i b h
theorem FolAt.tk_put (A : FolAt C H0 H p dx vh vs ln rl as t names rows) {j : Nat} {a : Addr} {o : HO} (ha : as[j]? = some a) : TK H (upd H a o) := tk_lst (A.at_ j a ha)
/-- the attributes are stored anew -/
theorem FolAt.obj (A : FolAt C H0 H p dx vh vs ln rl as t names rows) {vs' : V} {ln' : Addr} {t' : Nat} {names' : List Nat} (hn : H ln' = some (.lst (names'.map natV))) (n0 : H0 ln' = none) (ne : ln' ≠ rl) :
    FolAt C H0 (upd H p (.ins C dx (ff vh vs' (.ref ln') (.ref rl) (.int (t' : Int))))) p dx vh vs' ln' rl as t' names' rows := by
  refine ⟨same_mut A.sm A.p0, A.p0, n0, A.rz, A.a0, upd_same, ?_, ?_, ne, A.nd, A.len, fun j a h => ?_⟩
  · rw [upd_ne (A.p_ne hn).symm]
    exact hn
  · rw [upd_ne (A.p_ne A.rw).symm]
    exact A.rw
  · rw [upd_ne (A.p_ne (A.at_ j a h)).symm]
    exact A.at_ j a h
end
structure TxtF (K : PySem.W.Frag) (mg : Str → Option Value) (C : Addr) : Prop where
  cl : Cls K C
  nh : NoAttr K C "follow_house"
  ns : NoAttr K C "follow_stand"
  nn : NoAttr K C "follow_names"
  nr : NoAttr K C "follow_rows"
  nm : NoAttr K C "follow_moment"
  mgC : mg "Follower" = some (.ref C)
end Hw

/-! The follower's methods. -/
namespace Hw
open PySem HwB L2
section
variable {P : Program} {w : World} {K : PySem.W.Frag} {mg : Str → Option Value} {base : Heap}
/-! ### __init__ -/
def spInit (C : Addr) : Sp := fun vs H Q _ => ∃ (H0 : Hp) (p dx : Addr) (vh : V), vs = [.ref p, vh] ∧ Same H0 H ∧ H0 p = none ∧ H p = some (.ins C dx []) ∧
  ∀ H' vs ln rl, FolAt C H0 H' p dx vh vs ln rl [] 0 [] [] → isSt H' vs [] → TK H H' → Q .non H'
theorem scInit : FnScope ["self", "house"] ["self", "house"] (defScope sInit) := ⟨rfl, rfl, rfl, by decide +kernel, rfl, by decide +kernel, by decide +kernel⟩
theorem ok_init {f C : Addr} {fd : FuncData} (F : Fun K "__init__" "Follower.__init__" sInit f fd) (T : TxtF K mg C) : FnOk P w K mg base CX0 1 f fd ["self", "house"] (spInit C) := by
  refine F.ok scInit (fun vs H Q E h => ?_) (fun cdv A outer s H vs Q E hr h => ?_)
  · obtain ⟨H0, p, dx, vh, rfl, _⟩ := h
    rfl
  · obtain ⟨H0, p, dx, vh, rfl, s0, p0, hp, q⟩ := h
    refine ⟨_, (pss_cons (ps_fld (pv 0) (pv 1) rfl)
      (pss_cons (ps_fld (pv 0) (pe_tup pa_nil) rfl)
      (pss_cons (ps_fld (pv 0) (pe_lst pa_nil) rfl)
      (pss_cons (ps_fld (pv 0) (pe_lst pa_nil) rfl)
      (pss_one (ps_fld (pv 0) pe_int rfl)))))), ?_⟩
    have z : ([] : List (Str × V)).length < 900 := by decide
    -- self.follow_house = house
    refine ⟨_, rfl, _, rfl, p, C, dx, _, rfl, hp, T.cl, T.nh, (by decide), ?_⟩
    have t1 := tk_ins (o := .ins C dx (putF "follow_house" vh [])) hp
    generalize hH1 : upd H p (.ins C dx (putF "follow_house" vh [])) = H1 at t1
    have g1 : H1 p = some (.ins C dx (putF "follow_house" vh [])) := by rw [← hH1, upd_same]
    have s1 : Same H0 H1 := by rw [← hH1]; exact same_mut s0 p0
    -- self.follow_stand = ()
    refine ⟨Nat.zero_le _, fun e ne => ?_⟩
    have s2 := same_new (o := .tup []) ne
    refine ⟨_, rfl, p, C, dx, _, rfl, s2 _ _ g1, T.cl, T.ns, (put_lt (n := 999) (Nat.lt_trans z (by decide))), ?_⟩
    have t2 := tk_ins (o := .ins C dx (putF "follow_stand" (.ref e) (putF "follow_house" vh []))) (s2 _ _ g1)
    generalize hH2 : upd (upd H1 e (.tup [])) p (.ins C dx (putF "follow_stand" (.ref e) (putF "follow_house" vh []))) = H2 at t2
    have g2 : H2 p = some (.ins C dx (putF "follow_stand" (.ref e) (putF "follow_house" vh []))) := by rw [← hH2, upd_same]
    have s2' : Same H0 H2 := by rw [← hH2]; exact same_mut (s1.trans s2) p0
    have he : H2 e = some (.tup []) := t2 _ _ upd_same
    have tk2 : TK H H2 := (t1.trans s2.tk).trans t2
    -- self.follow_names = []
    refine ⟨Nat.zero_le _, fun ln nl => ?_⟩
    have s3 := same_new (o := .lst []) nl
    have l0 := s2'.free nl
    refine ⟨_, rfl, p, C, dx, _, rfl, s3 _ _ g2, T.cl, T.nn, (put_lt (n := 999) (put_lt (n := 998) (Nat.lt_trans z (by decide)))), ?_⟩
    have n1 : p ≠ ln := ne_of_none g2 nl
    have t3 := tk_ins (o := .ins C dx (putF "follow_names" (.ref ln) (putF "follow_stand" (.ref e) (putF "follow_house" vh [])))) (s3 _ _ g2)
    generalize hH3 : upd (upd H2 ln (.lst [])) p (.ins C dx (putF "follow_names" (.ref ln) (putF "follow_stand" (.ref e) (putF "follow_house" vh [])))) = H3 at t3
    have g3 : H3 p = some (.ins C dx (putF "follow_names" (.ref ln) (putF "follow_stand" (.ref e) (putF "follow_house" vh [])))) := by rw [← hH3, upd_same]
    have s3' : Same H0 H3 := by rw [← hH3]; exact same_mut (s2'.trans s3) p0
    have hl3 : H3 ln = some (.lst []) := by rw [← hH3, upd_ne n1.symm, upd_same]
    -- self.follow_rows = []
    refine ⟨Nat.zero_le _, fun rl nr => ?_⟩
    have s4 := same_new (o := .lst []) nr
    have r0 := s3'.free nr
    refine ⟨_, rfl, p, C, dx, _, rfl, s4 _ _ g3, T.cl, T.nr, (put_lt (n := 999) (put_lt (n := 998) (put_lt (n := 997) (Nat.lt_trans z (by decide))))), ?_⟩
    have n2 : p ≠ rl := ne_of_none g3 nr
    have n3 : ln ≠ rl := ne_of_none hl3 nr
    have t4 := tk_ins (o := .ins C dx (putF "follow_rows" (.ref rl) (putF "follow_names" (.ref ln) (putF "follow_stand" (.ref e) (putF "follow_house" vh []))))) (s4 _ _ g3)
    generalize hH4 : upd (upd H3 rl (.lst [])) p (.ins C dx (putF "follow_rows" (.ref rl) (putF "follow_names" (.ref ln) (putF "follow_stand" (.ref e) (putF "follow_house" vh []))))) = H4 at t4
    have g4 : H4 p = some (.ins C dx (putF "follow_rows" (.ref rl) (putF "follow_names" (.ref ln) (putF "follow_stand" (.ref e) (putF "follow_house" vh []))))) := by rw [← hH4, upd_same]
    have s4' : Same H0 H4 := by rw [← hH4]; exact same_mut (s3'.trans s4) p0
    have hl4 : H4 ln = some (.lst []) := by rw [← hH4, upd_ne n1.symm]; exact s4 _ _ hl3
    have hr4 : H4 rl = some (.lst []) := by rw [← hH4, upd_ne n2.symm, upd_same]
    -- self.follow_moment = 0
    refine ⟨_, rfl, p, C, dx, _, rfl, g4, T.cl, T.nm, (put_lt (n := 999) (put_lt (n := 998) (put_lt (n := 997) (put_lt (n := 996) (Nat.lt_trans z (by decide)))))), ?_⟩
    have t5 := tk_ins (o := .ins C dx (putF "follow_moment" (.int 0) (putF "follow_rows" (.ref rl) (putF "follow_names" (.ref ln) (putF "follow_stand" (.ref e) (putF "follow_house" vh [])))))) g4
    refine q _ (.ref e) ln rl ⟨same_mut s4' p0, p0, l0, r0, fun a ha => absurd ha List.not_mem_nil, ?_, ?_, ?_, n3, List.nodup_nil, rfl, fun j a h => by simp at h⟩ ⟨e, [], rfl, t5 _ _ (t4 _ _ (s4.tk _ _ (t3 _ _ (s3.tk _ _ he)))), .nil⟩
      ((tk2.trans (s3.tk.trans t3)).trans ((s4.tk.trans t4).trans t5))
    · rw [upd_same, ff_0]
      rfl
    · rw [upd_ne n1.symm]
      exact hl4
    · rw [upd_ne n2.symm]
      exact hr4

/-! ### take_beat -/
def spTake (C : Addr) : Sp := fun vs H Q _ => ∃ (H0 : Hp) (p dx : Addr) (vh vst vb : V) (ln rl : Addr) (as : List Addr) (t : Nat) (names : List Nat) (rows : List Row) (h : Hs) (st : List Per) (b : List Com),
  vs = [.ref p, vb] ∧ FolAt C H0 H p dx vh vst ln rl as t names rows ∧ isHs H vh h ∧ isSt H vst st ∧ isBt H vb b ∧ 0 ≤ h.hands ∧ names.length = st.length ∧ (∀ nm ∈ names, nm < rows.length) ∧
  st.length + b.length ≤ 10000 ∧ rows.length + b.length ≤ 10000 ∧
  ∀ H' vst' ln' as', FolAt C H0 H' p dx vh vst' ln' rl as' (t + 1) (foStep h t st b ⟨names, rows⟩).names (foStep h t st b ⟨names, rows⟩).rows → isSt H' vst' (nxt h st b) → TK H H' → Q .non H'
abbrev nTake : List Str := ["self", "comers", "inside", "many", "first", "place", "names", "places", "behind", "missed", "gone", "name"]
theorem scTake : FnScope nTake ["self", "comers"] (defScope sTake) := ⟨rfl, rfl, rfl, by decide +kernel, rfl, by decide +kernel, by decide +kernel⟩
theorem rg_names (first many : Nat) : rgV (first : Int) ((first : Int) + (many : Int)) = (newNames first many).map natV := by
  unfold rgV newNames
  rw [show ((first : Int) + (many : Int) - (first : Int)).toNat = many by omega, List.map_map]
  rfl
theorem newRows_snoc (t many n : Nat) : newRows t many (n + 1) = newRows t many n ++ [⟨t, decide (n < many), 0, none⟩] := by
  unfold newRows
  rw [List.range_succ, List.map_append]
  rfl
theorem rows_len (P G : List Int) (t : Nat) (names : List Nat) (rows : List Row) : ∀ k, (rowsUp P G t names rows k).length = rows.length
  | 0 => rfl
  | k + 1 => by
    have ih := rows_len P G t names rows k
    unfold rowsUp
    split <;> split <;> simp [setG, bumpW, ih]
theorem ok_take {f C : Addr} {fd : FuncData} (F : Fun K "take_beat" "Follower.take_beat" sTake f fd) (T : Blt mg) (TF : TxtF K mg C) (CL : Has P w K mg base "let_in" 1 ["house", "stand", "beat"] spLetIn)
    (CP : Has P w K mg base "picked" 2 ["house", "stand"] spPicked) (CS : Has P w K mg base "step" 3 ["house", "stand", "beat"] spStep) (CN : Has P w K mg base "names_behind" 1 ["rule", "names", "places", "gone"] spNames) :
    FnOk P w K mg base CX0 4 f fd ["self", "comers"] (spTake C) := by
  refine F.ok scTake (fun vs H Q E h => ?_) (fun cdv A outer s H vs Q E hr h => ?_)
  · obtain ⟨H0, p, dx, vh, vst, vb, ln, rl, as, t, names, rows, h, st, b, rfl, _⟩ := h
    rfl
  · obtain ⟨H0, p, dx, vh, vst, vb, ln, rl, as, t, names, rows, h, st, b, rfl, A, hh, hst, hb, h0, nlen, nlt, bd1, bd2, q⟩ := h
    have nd := scTake.nd
    refine ⟨_, (pss_cons (ps_set (i := 2) nd rfl (Or.inl rfl) (pe_ix ix_tup (pe_has CL (hr.mono (by decide)) (pa_cons (pe_fld (pv 0) rfl) (pa_cons (pe_fld (pv 0) rfl) (pa_cons (pv 1) pa_nil)))) pe_int (fun _ _ => rfl)))
      (pss_cons (ps_set (i := 3) nd rfl (Or.inl rfl) (pe_op op_sub (pe_callB call_len_seq (by rfl) T.len PySem.boot_len (pa_cons (pv 2) pa_nil)) (pe_callB call_len_seq (by rfl) T.len PySem.boot_len (pa_cons (pe_fld (pv 0) rfl) pa_nil))))
      (pss_cons (ps_set (i := 4) nd rfl (Or.inl rfl) (pe_callB call_len_seq (by rfl) T.len PySem.boot_len (pa_cons (pe_fld (pv 0) rfl) pa_nil)))
      (pss_cons (ps_for PassesOwn.never rfl (pi_range1 rfl T.range (pa_cons (pe_callB call_len_seq (by rfl) T.len PySem.boot_len (pa_cons (pv 1) pa_nil)) pa_nil)) (pg_name (i := 5) nd rfl (Or.inl rfl)) (pss_one (ps_expr (pe_bm PySem.F.plainAttrs_list PySem.F.slot_list_append PySem.F.type_list_append mt_append (pe_fld (pv 0) rfl) (pa_cons (pe_lst (pa_cons (pe_fld (pv 0) rfl) (pa_cons (pe_cmpR op_lt (pv 5) (pv 3) (nomark _)) (pa_cons pe_int (pa_cons pe_non pa_nil))))) pa_nil)))))
      (pss_cons (ps_set (i := 6) nd rfl (Or.inl rfl) (pe_op op_cat (pe_fld (pv 0) rfl) (pe_listRg rfl rfl T.list (prg_2 rfl T.range (pv 4) (pe_op op_add (pv 4) (pv 3))))))
      (pss_cons (ps_set (i := 7) nd rfl (Or.inl rfl) (pe_has CP (hr.mono (by decide)) (pa_cons (pe_fld (pv 0) rfl) (pa_cons (pv 2) pa_nil))))
      (pss_cons (ps_asg (pe_has CS (hr.mono (by decide)) (pa_cons (pe_fld (pv 0) rfl) (pa_cons (pe_fld (pv 0) rfl) (pa_cons (pv 1) pa_nil)))) (pg_tup rfl (pgs_cons (pg_name (i := 8) nd rfl (Or.inl rfl)) (pgs_cons (pg_name (i := 9) nd rfl (Or.inl rfl)) (pgs_cons (pg_name (i := 10) nd rfl (Or.inl rfl)) pgs_nil)))))
      (pss_cons (ps_fld (pv 0) (pe_op op_add (pe_fld (pv 0) rfl) pe_int) rfl)
      (pss_cons (ps_for PassesOwn.never rfl (pi_enum (by rfl) T.enumerate (pa_cons (pv 6) pa_nil)) (pg_tup rfl (pgs_cons (pg_name (i := 5) nd rfl (Or.inl rfl)) (pgs_cons (pg_name (i := 11) nd rfl (Or.inl rfl)) pgs_nil))) (pss_cons (ps_mid (ps_if (pt_cmpR op_notIn_seq (pv 5) (pv 7) (by rfl)) (pss_one (ps_asg (pe_op op_add (pe_ix ix_list (pe_ix ix_list (pe_fld (pv 0) rfl) (pv 11) (fun _ _ => rfl)) pe_int (fun _ _ => rfl)) pe_int) (pg_sub (pe_ix ix_list (pe_fld (pv 0) rfl) (pv 11) (fun _ _ => rfl)) pe_int set_list))) pss_nil))
      (pss_one (ps_mid (ps_if (pt_cmpR op_in_seq (pv 5) (pv 10) (by rfl)) (pss_one (ps_asg (pe_fld (pv 0) rfl) (pg_sub (pe_ix ix_list (pe_fld (pv 0) rfl) (pv 11) (fun _ _ => rfl)) pe_int set_list))) pss_nil)))))
      (pss_cons (ps_fld (pv 0) (pe_has CN (hr.mono (by decide)) (pa_cons (pe_ix ix_tup (pe_fld (pv 0) rfl) pe_int (fun _ _ => rfl)) (pa_cons (pv 6) (pa_cons (pv 7) (pa_cons (pv 10) pa_nil))))) rfl)
      (pss_one (ps_fld (pv 0) (pv 8) rfl)))))))))))), ?_⟩
    have big : (20000 : Nat) < sizeLine := by decide
    have few : ∀ a b c d e : V, (ff a b c d e).length < 1000 := fun _ _ _ _ _ => by show 5 < 1000; decide
    obtain ⟨ah, rfl, hah⟩ := id hh
    obtain ⟨ab, bxs, rfl, hab, pb⟩ := id hb
    have bl : bxs.length = b.length := pb.length
    -- inside = let_in(self.follow_house, self.follow_stand, comers)[0]
    refine ⟨_, rfl, p, C, dx, _, _, rfl, A.ob, TF.cl, TF.nh, ff_h, _, rfl, p, C, dx, _, _, rfl, A.ob, TF.cl, TF.ns, ff_s, _, rfl, h, st, b, _, _, _, rfl, hh, hst, hb, bd1, fun v1 H1 s1 hv1 => ?_⟩
    obtain ⟨a1, x1, rfl, ha1, hin⟩ := hv1
    refine ⟨a1, _, _, _, rfl, rfl, SqT.of ha1, atI_nat (j := 0) rfl, ?_⟩
    have A1 := A.grow s1
    have hst1 := isSt_up s1.tk hst
    obtain ⟨ai, ixs, rfl, hai, pin⟩ := id hin
    obtain ⟨ast, sxs, rfl, hast, pst⟩ := id hst1
    have ixl : ixs.length = (ins h st b).length := pin.length
    have sxl : sxs.length = st.length := pst.length
    have ige := ins_ge h st b
    have ile := ins_le h st b
    -- many = len(inside) - len(self.follow_stand)
    refine ⟨_, rfl, ai, _, rfl, .inr (SqT.of hai), _, rfl, p, C, dx, _, _, rfl, A1.ob, TF.cl, TF.ns, ff_s, ast, _, rfl, .inr (SqT.of hast), _, _, rfl, rfl, ?_⟩
    obtain ⟨M, hM⟩ : ∃ M, M = (ins h st b).length - st.length := ⟨_, rfl⟩
    have eM : ((ixs.length : Nat) : Int) - ((sxs.length : Nat) : Int) = (M : Int) := by omega
    -- first = len(self.follow_rows)
    refine ⟨_, rfl, p, C, dx, _, _, rfl, A1.ob, TF.cl, TF.nr, ff_r, rl, _, rfl, .inl (SqL.of A1.rw), ?_⟩
    have eF : (((as.map V.ref).length : Nat) : Int) = (rows.length : Int) := by rw [List.length_map, A.len]
    -- for place in range(len(comers))
    refine ⟨_, rfl, ab, _, rfl, .inr (SqT.of (s1 _ _ hab)), ((bxs.length : Nat) : Int), rfl, by omega, by omega, for_range (lo := 0) (n := ((bxs.length : Nat) : Int).toNat)
      (fun i σ H' => ∃ as' w5, σ = [some (.ref p), some (.ref ab), some (.ref ai), some (.int (M : Int)), some (.int (rows.length : Int)), w5, none, none, none, none, none, none] ∧
        FolAt C H0 H' p dx (.ref ah) (.ref ast) ln rl as' t names (rows ++ newRows t M i) ∧ TK H1 H')
      ⟨as, none, ?_, by simpa [newRows] using A1, TK.refl _⟩ ?_ ?_⟩
    · show [some (V.ref p), some (V.ref ab), some (V.ref ai), some (V.int (((ixs.length : Nat) : Int) - ((sxs.length : Nat) : Int))), some (V.int (((as.map V.ref).length : Nat) : Int)), none, none, none, none, none, none, none] = _
      rw [eM, eF]
    · rintro i σ H2 hi ⟨as', w5, rfl, A2, t2⟩
      have hi' : i < b.length := by omega
      refine ⟨_, rfl, p, C, dx, _, _, rfl, A2.ob, TF.cl, TF.nr, ff_r, .inl ⟨rfl, _, SqL.of A2.rw⟩, _, rfl, p, C, dx, _, _, rfl, A2.ob, TF.cl, TF.nm, ff_m, _, rfl, _, rfl, _, _, rfl, rfl, (by show 4 ≤ sizeLine; decide), fun q5 nq => ?_⟩
      have nr : rl ≠ q5 := ne_of_none A2.rw nq
      have al := A2.len
      rw [List.length_append, newRows_len] at al
      refine ⟨rl, _, _, rfl, rfl, (upd_ne nr).trans A2.rw, by rw [List.length_map]; omega, ?_⟩
      have er : ([V.int (t : Int), V.bl (decide ((0 : Int) + (i : Int) < (M : Int))), V.int 0, V.non] : List V) = rowV ⟨t, decide (i < M), 0, none⟩ := by
        have e1 : decide ((0 : Int) + (i : Int) < (M : Int)) = decide (i < M) := decide_eq_decide.mpr (by omega)
        rw [e1]
        rfl
      have A3 := A2.push (r := ⟨t, decide (i < M), 0, none⟩) nq
      rw [← er] at A3
      refine ⟨as' ++ [q5], _, rfl, by rw [newRows_snoc, ← List.append_assoc]; exact A3, t2.trans ((same_new (o := .lst [V.int (t : Int), V.bl (decide ((0 : Int) + (i : Int) < (M : Int))), V.int 0, V.non]) nq).tk.trans (tk_lst ((upd_ne nr).trans A2.rw)))⟩
    rintro σ H2 ⟨as', w5, rfl, A2, t2⟩
    have eb : ((bxs.length : Nat) : Int).toNat = b.length := by omega
    rw [eb] at A2
    generalize hrows : rows ++ newRows t M b.length = rows1 at A2
    have r1l : rows1.length = rows.length + b.length := by rw [← hrows, List.length_append, newRows_len]
    -- names = self.follow_names + list(range(first, first + many))
    refine ⟨_, rfl, p, C, dx, _, _, rfl, A2.ob, TF.cl, TF.nn, ff_n, _, rfl, _, rfl, _, rfl, _, _, rfl, rfl, (rows.length : Int), (rows.length : Int) + (M : Int), rfl, rfl, RgOk.of_le (by omega) (by omega) (by omega) (by omega), fun q3 n3 => ?_⟩
    rw [rg_names]
    have s3 := same_new (o := .lst ((newNames rows.length M).map natV)) n3
    have nnl := newNames_len rows.length M
    refine ⟨ln, q3, _, _, rfl, rfl, s3 _ _ A2.nm, upd_same, by rw [List.length_map, List.length_map]; omega, fun nl n4 => ?_⟩
    rw [← List.map_append]
    have s4 := same_new (o := .lst ((names ++ newNames rows.length M).map natV)) n4
    generalize hnames : names ++ newNames rows.length M = names1 at s4
    have hnl : (upd (upd H2 q3 (.lst ((newNames rows.length M).map natV))) nl (.lst (names1.map natV))) nl = some (.lst (names1.map natV)) := upd_same
    have s34 := s3.trans s4
    clear s3 s4 n3 n4
    generalize upd (upd H2 q3 (.lst ((newNames rows.length M).map natV))) nl (.lst (names1.map natV)) = H4 at hnl s34
    have n1l : names1.length = (ins h st b).length := by
      rw [← hnames, List.length_append, nnl]
      omega
    have n1lt : ∀ nm ∈ names1, nm < rows1.length := fun nm hnm => by
      rw [← hnames] at hnm
      rw [r1l]
      rcases List.mem_append.mp hnm with z | z
      · have := nlt nm z
        omega
      · have := newNames_mem z
        omega
    have A4 := A2.grow s34
    have t4 : TK H1 H4 := t2.trans s34.tk
    have hin4 := isSt_up t4 hin
    have hst4 := isSt_up t4 hst1
    have hh4 := isHs_up (s1.tk.trans t4) hh
    have hb4 := isBt_up (s1.tk.trans t4) hb
    -- places = picked(self.follow_house, inside)
    refine ⟨_, rfl, p, C, dx, _, _, rfl, A4.ob, TF.cl, TF.nh, ff_h, _, rfl, h, ins h st b, _, _, rfl, hh4, hin4, h0, by omega, fun v5 H5 s5 hv5 => ?_⟩
    obtain ⟨ap, rfl, hap⟩ := hv5
    have A5 := A4.grow s5
    -- behind, missed, gone = step(self.follow_house, self.follow_stand, comers)
    refine ⟨_, rfl, p, C, dx, _, _, rfl, A5.ob, TF.cl, TF.nh, ff_h, _, rfl, p, C, dx, _, _, rfl, A5.ob, TF.cl, TF.ns, ff_s, _, rfl, h, st, b, _, _, _, rfl, isHs_up s5.tk hh4, isSt_up s5.tk hst4, isBt_up s5.tk hb4, h0, bd1, fun v6 H6 s6 hv6 => ?_⟩
    obtain ⟨a6, x6, y6, rfl, ha6, hx6, ⟨ag, rfl, hag⟩⟩ := hv6
    refine ⟨a6, _, rfl, SqT.of ha6, rfl, _, _, rfl, _, _, rfl, _, _, rfl, rfl, ?_⟩
    have A6 := A5.grow s6
    have hnl6 := s6 _ _ (s5 _ _ hnl)
    have hap6 := s6 _ _ hap
    have t6 : TK H H6 := (s1.tk.trans t4).trans (s5.tk.trans s6.tk)
    -- self.follow_moment = self.follow_moment + 1
    refine ⟨_, rfl, p, C, dx, _, _, rfl, A6.ob, TF.cl, TF.nm, ff_m, _, _, rfl, rfl, _, rfl, p, C, dx, _, rfl, A6.ob, TF.cl, TF.nm, few _ _ _ _ _, ?_⟩
    rw [ff_pm]
    have A7 := A6.obj (vs' := .ref ast) (t' := t + 1) A6.nm A6.n0 A6.ne
    have t7 := tk_ins (o := .ins C dx (ff (.ref ah) (.ref ast) (.ref ln) (.ref rl) (.int ((t + 1 : Nat) : Int)))) A6.ob
    have hnl7 : (upd H6 p (.ins C dx (ff (.ref ah) (.ref ast) (.ref ln) (.ref rl) (.int ((t + 1 : Nat) : Int))))) nl = some (.lst (names1.map natV)) := (upd_ne (A6.p_ne hnl6).symm).trans hnl6
    -- for place, name in enumerate(names)
    refine ⟨_, rfl, nl, _, rfl, SqL.of hnl7, for_it walk_enum (fun k σ H' => ∃ w5 w11, σ = [some (.ref p), some (.ref ab), some (.ref ai), some (.int (M : Int)), some (.int (rows.length : Int)), w5, some (.ref nl), some (.ref ap), some x6, some (.int (lostN h st b : Nat)), some (.ref ag), w11] ∧
        FolAt C H0 H' p dx (.ref ah) (.ref ast) ln rl as' (t + 1) names (rowsUp (pk h (ins h st b)) (gn h st b) t names1 rows1 k) ∧ TK H6 H' ∧ H' nl = some (.lst (names1.map natV)))
      ⟨_, _, rfl, A7, t7, hnl7⟩ (fun k σ H' _ ⟨_, _, _, _, _, z⟩ => SqL.of z) ?_ ?_⟩
    · rintro k x σ H8 H9 hk ⟨w5, w11, rfl, A8, t8, hnl8⟩ ⟨tt, y1, y2, rfl, nt, rfl, ey1, ey2⟩
      obtain rfl : V.int (k : Nat) = y1 := Option.some.inj ey1
      rw [List.length_map] at hk
      obtain rfl : natV (names1.getD k 0) = y2 := Option.some.inj ((nat_at hk).symm.trans ey2)
      have s9 := same_new (o := .tup [.int (k : Nat), natV (names1.getD k 0)]) nt
      have htt : (upd H8 tt (.tup [.int (k : Nat), natV (names1.getD k 0)])) tt = some (.tup [.int (k : Nat), natV (names1.getD k 0)]) := upd_same
      have A9 := A8.grow s9
      have t9 := t8.trans s9.tk
      have hnl9 := s9 _ _ hnl8
      clear s9 nt
      generalize upd H8 tt (.tup [.int (k : Nat), natV (names1.getD k 0)]) = H9 at htt A9 t9 hnl9
      refine ⟨tt, _, rfl, SqT.of htt, rfl, _, _, rfl, _, _, rfl, rfl, ?_⟩
      generalize hnm : names1.getD k 0 = nm
      have nmlt : nm < rows1.length := by
        rw [← hnm, List.getD_eq_getElem?_getD, List.getElem?_eq_getElem hk]
        exact n1lt _ (List.getElem_mem hk)
      have hup := rows_len (pk h (ins h st b)) (gn h st b) t names1 rows1 k
      generalize hR : rowsUp (pk h (ins h st b)) (gn h st b) t names1 rows1 k = R at A9 hup
      have aslen := A9.len
      obtain ⟨ra, hra⟩ : ∃ ra, as'[nm]? = some ra := ⟨as'[nm]'(by omega), List.getElem?_eq_getElem (by omega)⟩
      have raat : (as'.map V.ref)[nm]? = some (.ref ra) := by rw [List.getElem?_map, hra]; rfl
      -- what stands behind the first if
      generalize hA : (if (k : Int) ∈ pk h (ins h st b) then R else bumpW R nm) = R1
      have goal2 : rowsUp (pk h (ins h st b)) (gn h st b) t names1 rows1 (k + 1) = if (k : Int) ∈ gn h st b then setG R1 nm (t + 1) else R1 := by
        show (if (k : Int) ∈ gn h st b then setG (if (k : Int) ∈ pk h (ins h st b) then rowsUp (pk h (ins h st b)) (gn h st b) t names1 rows1 k else bumpW (rowsUp (pk h (ins h st b)) (gn h st b) t names1 rows1 k) (names1.getD k 0)) (names1.getD k 0) (t + 1)
          else (if (k : Int) ∈ pk h (ins h st b) then rowsUp (pk h (ins h st b)) (gn h st b) t names1 rows1 k else bumpW (rowsUp (pk h (ins h st b)) (gn h st b) t names1 rows1 k) (names1.getD k 0))) = _
        rw [hR, hnm, hA]
      refine ⟨fun σ H' => σ = [some (.ref p), some (.ref ab), some (.ref ai), some (.int (M : Int)), some (.int (rows.length : Int)), some (.int (k : Nat)), some (.ref nl), some (.ref ap), some x6, some (.int (lostN h st b : Nat)), some (.ref ag), some (natV nm)] ∧
        FolAt C H0 H' p dx (.ref ah) (.ref ast) ln rl as' (t + 1) names R1 ∧ TK H6 H' ∧ H' nl = some (.lst (names1.map natV)), ?_, ?_⟩
      · -- place not in places
        refine ⟨_, rfl, _, rfl, ap, _, rfl, .inr (SqT.of (t9 _ _ hap6)), rfl, flat_ints _, _, rfl, ?_⟩
        have e3 : inV (.int (k : Nat)) ((pk h (ins h st b)).map V.int) = decide ((k : Int) ∈ pk h (ins h st b)) := inV_ints _ _
        refine ite2 (fun c => ?_) (fun c => ?_)
        · have c' : (k : Int) ∉ pk h (ins h st b) := fun m => by
            have z : (!inV (.int (k : Nat)) ((pk h (ins h st b)).map V.int)) = true := c
            rw [e3, decide_eq_true m] at z
            cases z
          rw [if_neg c'] at hA
          subst hA
          refine ⟨_, rfl, p, C, dx, _, _, rfl, A9.ob, TF.cl, TF.nr, ff_r, _, rfl, rl, _, _, _, rfl, rfl, SqL.of A9.rw, atI_nat raat, ra, _, _, _, rfl, rfl, SqL.of (A9.at_ _ _ hra), atI_nat (j := 2) rfl, _, _, rfl, rfl, ?_⟩
          refine ⟨_, rfl, p, C, dx, _, _, rfl, A9.ob, TF.cl, TF.nr, ff_r, _, rfl, rl, _, _, _, rfl, rfl, SqL.of A9.rw, atI_nat raat, ra, _, _, 2, rfl, rfl, A9.at_ _ _ hra, rfl, ?_⟩
          refine ⟨rfl, ?_, t9.trans (A9.tk_put hra), ?_⟩
          · exact A9.put (r := { R.getD nm r0 with wts := (R.getD nm r0).wts + 1 }) hra
          · rw [upd_ne fun e => A9.notin hnl9 (by rw [e]; exact List.mem_of_getElem? hra)]
            exact hnl9
        · have c' : (k : Int) ∈ pk h (ins h st b) := Classical.byContradiction fun m => c (by
            show (!inV (.int (k : Nat)) ((pk h (ins h st b)).map V.int)) = true
            rw [e3, decide_eq_false m]
            rfl)
          rw [if_pos c'] at hA
          subst hA
          exact ⟨rfl, A9, t9, hnl9⟩
      rintro σ H10 ⟨rfl, A10, t10, hnl10⟩
      refine ⟨fun σ H' => σ = [some (.ref p), some (.ref ab), some (.ref ai), some (.int (M : Int)), some (.int (rows.length : Int)), some (.int (k : Nat)), some (.ref nl), some (.ref ap), some x6, some (.int (lostN h st b : Nat)), some (.ref ag), some (natV nm)] ∧
        FolAt C H0 H' p dx (.ref ah) (.ref ast) ln rl as' (t + 1) names (rowsUp (pk h (ins h st b)) (gn h st b) t names1 rows1 (k + 1)) ∧ TK H6 H' ∧ H' nl = some (.lst (names1.map natV)), ?_, fun σ H' ⟨e, z⟩ => ⟨_, _, e, z⟩⟩
      rw [goal2]
      -- place in gone
      refine ⟨_, rfl, _, rfl, ag, _, rfl, .inr (SqT.of (t10 _ _ hag)), rfl, flat_ints _, _, rfl, ?_⟩
      have e3 : inV (.int (k : Nat)) ((gn h st b).map V.int) = decide ((k : Int) ∈ gn h st b) := inV_ints _ _
      refine ite2 (fun c => ?_) (fun c => ?_)
      · have c' : (k : Int) ∈ gn h st b := by
          have z : inV (.int (k : Nat)) ((gn h st b).map V.int) = true := c
          rw [e3] at z
          exact of_decide_eq_true z
        rw [if_pos c']
        refine ⟨_, rfl, p, C, dx, _, _, rfl, A10.ob, TF.cl, TF.nm, ff_m, ?_⟩
        refine ⟨_, rfl, p, C, dx, _, _, rfl, A10.ob, TF.cl, TF.nr, ff_r, _, rfl, rl, _, _, _, rfl, rfl, SqL.of A10.rw, atI_nat raat, ra, _, _, 3, rfl, rfl, A10.at_ _ _ hra, rfl, ?_⟩
        refine ⟨rfl, ?_, t10.trans (A10.tk_put hra), ?_⟩
        · exact A10.put (r := { R1.getD nm r0 with gone := some (t + 1) }) hra
        · rw [upd_ne fun e => A10.notin hnl10 (by rw [e]; exact List.mem_of_getElem? hra)]
          exact hnl10
      · have c' : (k : Int) ∉ gn h st b := fun m => c (by
          show inV (.int (k : Nat)) ((gn h st b).map V.int) = true
          rw [e3, decide_eq_true m])
        rw [if_neg c']
        exact ⟨rfl, A10, t10, hnl10⟩
    rintro σ H8 ⟨w5, w11, rfl, A8, t8, hnl8⟩
    rw [List.length_map] at A8
    have hh8 := isHs_up ((s5.tk.trans s6.tk).trans t8) hh4
    obtain ⟨ah', e', hah8⟩ := hh8
    cases e'
    -- self.follow_names = names_behind(self.follow_house[2], names, places, gone)
    refine ⟨_, rfl, p, C, dx, _, _, rfl, A8.ob, TF.cl, TF.nh, ff_h, ah, _, _, _, rfl, rfl, SqT.of hah8, atI_nat (j := 2) rfl, _, rfl, _, rfl, _, rfl, ?_⟩
    refine ⟨h.rule, nl, names1, _, _, pk h (ins h st b), gn h st b, rfl, hnl8, ⟨ap, rfl, t8 _ _ hap6⟩, ⟨ag, rfl, t8 _ _ hag⟩, by omega, ?_, fun z hz => ?_, fun pn H9 npn s9 hpn => ?_⟩
    · have := pk_le h (ins h st b)
      omega
    · rw [n1l]
      exact pk_mem hz
    have A9 := A8.grow s9
    have rne : pn ≠ rl := fun e => by
      rw [e, A8.rw] at npn
      cases npn
    refine ⟨_, rfl, p, C, dx, _, rfl, A9.ob, TF.cl, TF.nn, few _ _ _ _ _, ?_⟩
    rw [ff_pn]
    have A10 := A9.obj (vs' := .ref ast) (t' := t + 1) hpn (A8.sm.free npn) rne
    have t10 := tk_ins (o := .ins C dx (ff (.ref ah) (.ref ast) (.ref pn) (.ref rl) (.int ((t + 1 : Nat) : Int)))) A9.ob
    -- self.follow_stand = behind
    refine ⟨_, rfl, _, rfl, p, C, dx, _, rfl, A10.ob, TF.cl, TF.ns, few _ _ _ _ _, ?_⟩
    rw [ff_ps]
    have A11 := A10.obj (vs' := x6) (t' := t + 1) A10.nm A10.n0 A10.ne
    have t11 := tk_ins (o := .ins C dx (ff (.ref ah) x6 (.ref pn) (.ref rl) (.int ((t + 1 : Nat) : Int)))) A10.ob
    have t6' : TK H6 _ := t8.trans ((s9.tk.trans t10).trans t11)
    refine q _ x6 pn as' ?_ (isSt_up t6' hx6) (t6.trans t6')
    have ef : foStep h t st b ⟨names, rows⟩ = ⟨nb h.rule names1 (pk h (ins h st b)) (gn h st b), rowsUp (pk h (ins h st b)) (gn h st b) t names1 rows1 names1.length⟩ := by
      show Fo.mk (nb h.rule (names ++ newNames rows.length ((ins h st b).length - st.length)) _ _) (rowsUp _ _ t (names ++ newNames rows.length ((ins h st b).length - st.length)) (rows ++ newRows t ((ins h st b).length - st.length) b.length) (names ++ newNames rows.length ((ins h st b).length - st.length)).length) = _
      rw [← hM, hnames, hrows]
    rw [ef]
    exact A11
end
end Hw

/-! course_of, courses. -/
namespace Hw
open PySem HwB L2
/-! ### methods and makings by name -/
structure HasM (P : Program) (w : World) (K : PySem.W.Frag) (mg : Str → Option Value) (base : Heap) (C : Addr) (m : Str) (k : Nat) (ps : List Str) (sp : Sp) : Prop where
  ex : ∃ f fd, FnOk P w K mg base CX0 k f fd ps sp ∧ Meth K C m f ∧ Binds K fd ps []
  cl : Cls K C
structure HasI (P : Program) (w : World) (K : PySem.W.Frag) (mg : Str → Option Value) (base : Heap) (x : Str) (C : Addr) (k : Nat) (ps : List Str) (sp : Sp) : Prop where
  ex : ∃ f fd, FnOk P w K mg base CX0 k f fd ps sp ∧ Mk K C f ∧ Binds K fd ps []
  mg : mg x = some (.ref C)
section
variable {X : Cx} {C : Addr} {m x : Str} {k : Nat} {ps : List Str} {sp : Sp} {p pos apos : Pos} {o e : Expr} {es : List Expr} {ta : TE} {t : TA}
theorem pe_hasM {pl : Sem Bool} (A : HasM X.prog X.w X.K X.mg X.base C m k ps sp) (hr : Room k X.A) (he : PE X o ta) (ha : PA X (e :: es) t)
    (hst : starEach (e :: es) X.env = (false, eval e X.env) :: starEach es X.env := by rfl) (hpl : (backTo pos (starEach es X.env)).any (·.1) = false := by rfl)
    (ht : eval (.Call (.Attribute o m apos) (e :: es) [] pos) X.env = (do
      let ov ← eval o X.env
      standAt apos.atName
      let (f, first) ← holding [ov] (getMethod ov m pl)
      callWith pos f first (backTo pos (starEach (e :: es) X.env)) (backToKw pos (keywordEach [] X.env))) := by rfl) :
    PE X (.Call (.Attribute o m apos) (e :: es) [] pos) (tMeth C m sp [] E0 ta t) := by
  obtain ⟨f, fd, F, hm, hb⟩ := A.ex
  exact pe_meth (pl := pl) he A.cl hm F hr hb .nil pass0 ha hst hpl ht
theorem pe_hasI (A : HasI X.prog X.w X.K X.mg X.base x C k ps sp) (hr : Room (k + 1) X.A) (hg : Gl X x) (ha : PA X (e :: es) t)
    (hdb : (x == ("__debug__" : Str)) = false := by decide) (he : starEach (e :: es) X.env = (false, eval e X.env) :: starEach es X.env := by rfl) (hpl : (backTo pos (starEach es X.env)).any (·.1) = false := by rfl) :
    PE X (.Call (.Name x p) (e :: es) [] pos) (tMake C sp [] E0 t) := by
  obtain ⟨f, fd, F, hm, hb⟩ := A.ex
  exact pe_make hm F hr hg A.mg hb .nil pass0 ha hdb he hpl
end
section
variable {P : Program} {w : World} {K : PySem.W.Frag} {mg : Str → Option Value} {base : Heap}
/-! ### course_of -/
def crsV (r : Row) : List V := if r.ent = true then (match r.gone with
  | none => [.str "in", .int (r.beat : Int), .int (r.wts : Int)]
  | some m => [.str "gone", .int (r.beat : Int), .int (m : Int), .int (r.wts : Int)]) else [.str "lost", .int (r.beat : Int)]
def isCrs (H : Hp) (v : V) (r : Row) : Prop := ∃ a, v = .ref a ∧ H a = some (.tup (crsV r))
theorem isCrs_up {H H' : Hp} (k : TK H H') {v : V} {r : Row} : isCrs H v r → isCrs H' v r := fun ⟨a, e, h⟩ => ⟨a, e, k _ _ h⟩
def spCourse (C : Addr) : Sp := fun vs H Q _ => ∃ (H0 : Hp) (p dx : Addr) (vh vst : V) (ln rl : Addr) (as : List Addr) (t : Nat) (names : List Nat) (rows : List Row) (k : Nat), vs = [.ref p, .int (k : Int)] ∧
  FolAt C H0 H p dx vh vst ln rl as t names rows ∧ k < rows.length ∧ ∀ v H', Same H H' → isCrs H' v (rows.getD k r0) → Q v H'
theorem scCourse : FnScope ["self", "number", "beat", "entered", "waits", "moment"] ["self", "number"] (defScope sCourse) := ⟨rfl, rfl, rfl, by decide +kernel, rfl, by decide +kernel, by decide +kernel⟩
theorem ok_course {f C : Addr} {fd : FuncData} (F : Fun K "course_of" "Follower.course_of" sCourse f fd) (TF : TxtF K mg C) : FnOk P w K mg base CX0 1 f fd ["self", "number"] (spCourse C) := by
  refine F.ok scCourse (fun vs H Q E h => ?_) (fun cdv A outer s H vs Q E hr h => ?_)
  · obtain ⟨H0, p, dx, vh, vst, ln, rl, as, t, names, rows, k, rfl, _⟩ := h
    rfl
  · obtain ⟨H0, p, dx, vh, vst, ln, rl, as, t, names, rows, k, rfl, A, hk, q⟩ := h
    have nd := scCourse.nd
    refine ⟨_, (pss_cons (ps_asg (pe_ix ix_list (pe_fld (pv 0) rfl) (pv 1) (fun _ _ => rfl)) (pg_unl rfl (pgs_cons (pg_name (i := 2) nd rfl (Or.inl rfl)) (pgs_cons (pg_name (i := 3) nd rfl (Or.inl rfl)) (pgs_cons (pg_name (i := 4) nd rfl (Or.inl rfl)) (pgs_cons (pg_name (i := 5) nd rfl (Or.inl rfl)) pgs_nil))))))
      (pss_cons (ps_if (pt_not (pt_val (pv 3))) (pss_one (ps_ret (pe_tup (pa_cons pe_str (pa_cons (pv 2) pa_nil))))) pss_nil)
      (pss_cons (ps_if (pt_cmpR op_isN (pv 5) pe_non (nomark _)) (pss_one (ps_ret (pe_tup (pa_cons pe_str (pa_cons (pv 2) (pa_cons (pv 4) pa_nil)))))) pss_nil)
      (pss_one (ps_ret (pe_tup (pa_cons pe_str (pa_cons (pv 2) (pa_cons (pv 5) (pa_cons (pv 4) pa_nil)))))))))), ?_⟩
    have al := A.len
    obtain ⟨a, ha⟩ : ∃ a, as[k]? = some a := ⟨as[k]'(by omega), List.getElem?_eq_getElem (by omega)⟩
    have aat : (as.map V.ref)[k]? = some (.ref a) := by rw [List.getElem?_map, ha]; rfl
    have hrow := A.at_ k a ha
    generalize rows.getD k r0 = r at hrow q
    -- beat, entered, waits, moment = self.follow_rows[number]
    refine ⟨_, rfl, p, C, dx, _, _, rfl, A.ob, TF.cl, TF.nr, ff_r, _, rfl, rl, _, _, _, rfl, rfl, SqL.of A.rw, atI_nat aat, a, _, rfl, SqL.of hrow, rfl, _, _, rfl, _, _, rfl, _, _, rfl, _, _, rfl, rfl, ?_⟩
    have four : (4 : Nat) ≤ sizeLine := by decide
    -- if not entered
    refine ⟨_, rfl, _, rfl, ?_⟩
    cases he : r.ent with
    | false =>
      refine ⟨_, rfl, (by show 2 ≤ sizeLine; decide), fun x nx => q _ _ (same_new nx) ⟨x, rfl, ?_⟩⟩
      unfold crsV
      rw [he, upd_same]
      rfl
    | true =>
      -- if moment is None
      refine ⟨_, rfl, rfl, _, rfl, ?_⟩
      cases hg : r.gone with
      | none =>
        refine ⟨_, rfl, _, rfl, (by show 3 ≤ sizeLine; decide), fun x nx => q _ _ (same_new nx) ⟨x, rfl, ?_⟩⟩
        unfold crsV
        rw [he, hg, upd_same]
        rfl
      | some m =>
        refine ite2 (fun c => nomatch (of_decide_eq_true c : V.int (m : Int) = V.non)) (fun _ => ?_)
        refine ⟨_, rfl, _, rfl, _, rfl, four, fun x nx => q _ _ (same_new nx) ⟨x, rfl, ?_⟩⟩
        unfold crsV
        rw [he, hg, upd_same]
        rfl

/-! ### courses -/
def spCourses : Sp := fun vs H Q _ => ∃ (h : Hs) (way : List (List Com)) (vh vw : V), vs = [vh, vw] ∧ isHs H vh h ∧ isWay H vw way ∧ 0 ≤ h.hands ∧ WOk way ∧
  ∀ a xs H', H a = none → Same H H' → H' a = some (.lst xs) → Paired (isCrs H') xs (fo h (W way) way.length).rows → Q (.ref a) H'
abbrev nCourses : List Str := ["house", "way", "follower", "beat", "number"]
theorem scCourses : FnScope nCourses ["house", "way"] (defScope sCourses) := ⟨rfl, rfl, rfl, by decide +kernel, rfl, by decide +kernel, by decide +kernel⟩
theorem fo_rows (h : Hs) (w : Nat → List Com) : ∀ t, (fo h w t).rows.length = manyTo w t
  | 0 => rfl
  | t + 1 => by
    have ih := fo_rows h w t
    show (rowsUp _ _ t _ ((fo h w t).rows ++ newRows t _ (w t).length) _).length = manyTo w t + (w t).length
    rw [rows_len, List.length_append, newRows_len, ih]
theorem ok_courses {f C : Addr} {fd : FuncData} (F : Fun K "courses" "courses" sCourses f fd) (T : Blt mg) (TF : TxtF K mg C) (MI : HasI P w K mg base "Follower" C 1 ["self", "house"] (spInit C))
    (MT : HasM P w K mg base C "take_beat" 4 ["self", "comers"] (spTake C)) (MC : HasM P w K mg base C "course_of" 1 ["self", "number"] (spCourse C)) :
    FnOk P w K mg base CX0 5 f fd ["house", "way"] spCourses := by
  refine F.ok scCourses (fun vs H Q E h => ?_) (fun cdv A outer s H vs Q E hr h => ?_)
  · obtain ⟨h, way, vh, vw, rfl, _⟩ := h
    rfl
  · obtain ⟨h, way, vh, vw, rfl, hh, hw, h0, hW, q⟩ := h
    have nd := scCourses.nd
    refine ⟨_, (pss_cons (ps_set (i := 2) nd rfl (Or.inr rfl) (pe_hasI MI (hr.mono (by decide)) rfl (pa_cons (pv 0) pa_nil)))
      (pss_cons (ps_for PassesOwn.never rfl (pi_tup (pv 1)) (pg_name (i := 3) nd rfl (Or.inl rfl)) (pss_one (ps_expr (pe_hasM MT (hr.mono (by decide)) (pv 2) (pa_cons (pv 3) pa_nil)))))
      (pss_one (ps_ret (pe_lc (own := [("number", 4)]) (g := (gName 4)) (tt := tYes) rfl nd (pi_range1 rfl T.range (pa_cons (pe_callB call_len_seq (by rfl) T.len PySem.boot_len (pa_cons (pe_fld (pv 2) rfl) pa_nil)) pa_nil)) (blkOk_by (N := nCourses) (sc := defScope sCourses) (by decide +kernel)) (fun _ _ _ _ _ => (pg_name (i := 4) nd rfl (Or.inl rfl))) (fun _ _ _ _ _ => pts_nil) (fun _ _ _ _ _ => (pe_hasM MC (hr.mono (by decide)) (pv 2) (pa_cons (pv 4) pa_nil)))))))), ?_⟩
    have big : (20000 : Nat) < sizeLine := by decide
    obtain ⟨aw, wxs, rfl, haw, pw⟩ := id hw
    have wl : wxs.length = way.length := pw.length
    have wlen := hW.len
    -- follower = Follower(house)
    refine ⟨_, rfl, ?_⟩
    intro x dx nx ndx nex
    have s0 : Same H (upd (upd H dx (.own x)) x (.ins C dx [])) := fun b o e => by
      rw [upd_ne (ne_of_none e nx), upd_ne (ne_of_none e ndx)]
      exact e
    refine ⟨H, x, dx, vh, rfl, s0, nx, upd_same, fun H1 vs1 ln1 rl1 A1 hst1 t1 => ⟨rfl, ?_⟩⟩
    have t01 : TK H H1 := A1.sm.tk
    -- the loop
    refine ⟨_, rfl, aw, rfl, ⟨_, SqT.of (A1.sm _ _ haw)⟩, for_tup (K := K) (a := aw) (xs := wxs)
      (fun i σ H' => ∃ vst ln as w3 w4, σ = [some vh, some (.ref aw), some (.ref x), w3, w4] ∧ FolAt C H H' x dx vh vst ln rl1 as i (fo h (W way) i).names (fo h (W way) i).rows ∧ isSt H' vst (S h (W way) i))
      ⟨vs1, ln1, [], none, none, rfl, A1, hst1⟩ (fun i σ H' _ ⟨_, _, _, _, _, _, A, _⟩ => SqT.of (A.sm _ _ haw)) ?_ ?_⟩
    · rintro i y σ H2 hi ⟨vst, ln, as, w3, w4, rfl, A2, hst2⟩
      obtain ⟨b, hb, hbx⟩ := pair_get pw hi
      have eb := W_get hb
      have Ok := fo_ok h (W way) i
      have sl := S_len h (W way) i
      have ml := hW.many (i + 1)
      have me : manyTo (W way) (i + 1) = manyTo (W way) i + b.length := by rw [← eb]; rfl
      have fr := fo_rows h (W way) i
      refine ⟨_, rfl, x, dx, _, rfl, A2.ob, ff_take, _, rfl, H, x, dx, vh, vst, _, ln, rl1, as, i, (fo h (W way) i).names, (fo h (W way) i).rows, h, S h (W way) i, b, rfl, A2, isHs_up A2.sm.tk hh, hst2, isBt_up A2.sm.tk hbx, h0, Ok.len, Ok.lt, by omega, by omega, ?_⟩
      intro H3 vst' ln' as' A3 hst3 t3
      have e1 : S h (W way) (i + 1) = nxt h (S h (W way) i) b := by rw [← eb]; rfl
      have e2 : fo h (W way) (i + 1) = foStep h i (S h (W way) i) b (fo h (W way) i) := by rw [← eb]; rfl
      refine ⟨vst', ln', as', _, _, rfl, ?_, ?_⟩
      · rw [e2]
        exact A3
      · rw [e1]
        exact hst3
    · rintro σ H2 ⟨vst, ln, as, w3, w4, rfl, A2, hst2⟩
      rw [wl] at A2
      have al := A2.len
      have fr := fo_rows h (W way) way.length
      have ml := hW.many way.length
      refine ⟨_, rfl, x, C, dx, _, _, rfl, A2.ob, TF.cl, TF.nr, ff_r, rl1, _, rfl, .inl (SqL.of A2.rw), (((as.map V.ref).length : Nat) : Int), rfl, by rw [List.length_map]; omega, by rw [List.length_map]; omega, fun D hD => ?_⟩
      rw [show (((as.map V.ref).length : Nat) : Int).toNat = (fo h (W way) way.length).rows.length by rw [List.length_map]; omega]
      generalize hR : (fo h (W way) way.length).rows = R at A2 al fr q
      refine lc_range (lo := 0) (n := R.length) (fun i H' => ∃ xs, Same H2 H' ∧ H' D = some (.lst xs) ∧ Paired (isCrs H') xs (R.take i)) ⟨[], same_new hD, upd_same, .nil⟩ ?_ ?_
      · rintro i H3 hi ⟨xs, s3, hx, px⟩
        refine ⟨rfl, ?_⟩
        have A3 := A2.grow s3
        refine ⟨_, rfl, x, dx, _, rfl, A3.ob, ff_course, _, rfl, H, x, dx, vh, vst, ln, rl1, as, way.length, _, R, i, ?_, A3, hi, fun v H4 s4 hv => ?_⟩
        · rw [show (0 : Int) + (i : Int) = (i : Int) by omega]
          rfl
        have hx4 := s4 _ _ hx
        have xl : xs.length = i := by
          rw [px.length, List.length_take]
          omega
        refine ⟨xs, hx4, by omega, xs ++ [v], same_mut (s3.trans s4) hD, upd_same, ?_⟩
        have t5 := tk_lst (o := .lst (xs ++ [v])) hx4
        rw [take_snoc (getD_some hi)]
        exact pair_app (pair_mono (fun _ _ z => isCrs_up t5 (isCrs_up s4.tk z)) px) (.cons (isCrs_up t5 hv) .nil)
      · rintro H3 ⟨xs, s3, hx, px⟩
        rw [List.take_length] at px
        exact q D xs H3 (A2.sm.free hD) (A2.sm.trans s3) hx px
end
end Hw

/-! busy_stretches. -/
namespace Hw
open PySem HwB L2
section
variable {P : Program} {w : World} {K : PySem.W.Frag} {mg : Str → Option Value} {base : Heap}
def eV : List Nat → V
  | [] => .non
  | e :: _ => natV e
def isSE (h : Hs) (way : List (List Com)) (H : Hp) (v : V) (b : Nat) : Prop := ∃ a, v = .ref a ∧ H a = some (.tup [natV b, eV (endsOf h (W way) way.length b)])
theorem isSE_up {h : Hs} {way : List (List Com)} {H H' : Hp} (k : TK H H') {v : V} {b : Nat} : isSE h way H v b → isSE h way H' v b := fun ⟨a, e, z⟩ => ⟨a, e, k _ _ z⟩
def spBusy : Sp := fun vs H Q _ => ∃ (h : Hs) (way : List (List Com)) (vh vw : V), vs = [vh, vw] ∧ isHs H vh h ∧ isWay H vw way ∧ 0 ≤ h.hands ∧ WOk way ∧
  ∀ a xs H', H a = none → Same H H' → H' a = some (.lst xs) → Paired (isSE h way H') xs (begins h (W way) way.length) → Q (.ref a) H'
abbrev nBusy : List Str := ["house", "way", "stands", "lost", "gone", "found", "begin", "ends", "moment"]
theorem scBusy : FnScope nBusy ["house", "way"] (defScope sBusy) := ⟨rfl, rfl, rfl, by decide +kernel, rfl, by decide +kernel, by decide +kernel⟩
theorem map_nat (l : List Nat) : l.map natV = (l.map fun n : Nat => (n : Int)).map V.int := by
  rw [List.map_map]
  rfl
theorem ok_busy {f : Addr} {fd : FuncData} (F : Fun K "busy_stretches" "busy_stretches" sBusy f fd) (T : Blt mg) (CR : Has P w K mg base "run" 4 ["house", "way", "stand"] spRun) :
    FnOk P w K mg base CX0 5 f fd ["house", "way"] spBusy := by
  refine F.ok scBusy (fun vs H Q E h => ?_) (fun cdv A outer s H vs Q E hr h => ?_)
  · obtain ⟨h, way, vh, vw, rfl, _⟩ := h
    rfl
  · obtain ⟨h, way, vh, vw, rfl, hh, hw, h0, hW, q⟩ := h
    have nd := scBusy.nd
    refine ⟨_, (pss_cons (ps_asg (pe_has CR (hr.mono (by decide)) (pa_cons (pv 0) (pa_cons (pv 1) (pa_cons (pe_tup pa_nil) pa_nil)))) (pg_tup rfl (pgs_cons (pg_name (i := 2) nd rfl (Or.inr rfl)) (pgs_cons (pg_name (i := 3) nd rfl (Or.inl rfl)) (pgs_cons (pg_name (i := 4) nd rfl (Or.inl rfl)) pgs_nil)))))
      (pss_cons (ps_set (i := 5) nd rfl (Or.inl rfl) (pe_lst pa_nil))
      (pss_cons (ps_for PassesOwn.never rfl (pi_range1 rfl T.range (pa_cons (pe_callB call_len_seq (by rfl) T.len PySem.boot_len (pa_cons (pv 1) pa_nil)) pa_nil)) (pg_name (i := 6) nd rfl (Or.inl rfl)) (pss_one (ps_if (pt_join (PW.pt (pw_and (pt_cmpR (op_eqD hr.units) (pe_ix ix_tup (pv 2) (pv 6) (fun _ _ => rfl)) (pe_tup pa_nil) (nomark _)) (pw_and1 (pt_cmpR op_lt (pe_ix ix_tup (pv 3) (pv 6) (fun _ _ => rfl)) (pe_callB call_len_seq (by rfl) T.len PySem.boot_len (pa_cons (pe_ix ix_tup (pv 1) (pv 6) (fun _ _ => rfl)) pa_nil)) (nomark _)))))) (pss_cons (ps_setLc (i := 7) (own := [("moment", 8)]) (g := (gName 8)) rfl nd rfl rfl (sw_true rfl rfl rfl (by decide +kernel)) (pi_range2 rfl T.range (pa_cons (pe_op op_add (pv 6) pe_int) (pa_cons (pe_callB call_len_seq (by rfl) T.len PySem.boot_len (pa_cons (pv 2) pa_nil)) pa_nil))) (blkOk_by (N := nBusy) (sc := defScope sBusy) (by decide +kernel)) (fun _ _ _ _ _ => (pg_name (i := 8) nd rfl (Or.inl rfl))) (fun _ _ _ _ _ => (pts_one (pt_cmpR (show OpR _ (compareOp .Eq) (rEqD K) from op_eqD hr.units) (pe_ix (show IxR _ (rIxT K) from ix_tup) (pv 2) (pv 8) (fun _ _ => rfl)) (pe_tup pa_nil) (nomark _)))) (fun _ _ _ _ _ => (pv 8)))
      (pss_one (ps_expr (pe_bm PySem.F.plainAttrs_list PySem.F.slot_list_append PySem.F.type_list_append mt_append (pv 5) (pa_cons (pe_tup (pa_cons (pv 6) (pa_cons (pe_say (pe_ifExp (pt_cmpR (op_neD hr.units) (pv 7) (pe_lst pa_nil) (nomark _)) (pe_ix ix_list (pv 7) pe_int (fun _ _ => rfl)) pe_non)) pa_nil))) pa_nil))))) pss_nil)))
      (pss_one (ps_ret (pv 5)))))), ?_⟩
    have big : (20000 : Nat) < sizeLine := by decide
    have wlen := hW.len
    -- stands, lost, gone = run(house, way, ())
    refine ⟨_, rfl, _, rfl, Nat.zero_le _, fun p0 n0 => ?_⟩
    have s0 : Same H (upd H p0 (.tup [])) := same_new n0
    refine ⟨h, way, _, _, _, rfl, isHs_up s0.tk hh, isWay_up s0.tk hw, ⟨p0, [], rfl, upd_same, .nil⟩, h0, hW, fun v1 H1 s1 hv1 => ?_⟩
    obtain ⟨a1, x1, y1, z1, rfl, ha1, ⟨ax, xxs, rfl, hax, px⟩, ⟨al, rfl, hal⟩, -⟩ := hv1
    refine ⟨a1, _, rfl, SqT.of ha1, rfl, _, _, rfl, _, _, rfl, _, _, rfl, rfl, ?_⟩
    have s01 := s0.trans s1
    have hw1 := isWay_up s01.tk hw
    clear ha1 s0 s1 n0
    obtain ⟨aw, wxs, rfl, haw, pw⟩ := id hw1
    have wl : wxs.length = way.length := pw.length
    have xl : xxs.length = way.length + 1 := by
      rw [px.length]
      unfold standsL
      rw [List.length_map, List.length_range]
    have stand_at : ∀ k, k ≤ way.length → ∀ H', TK H1 H' → ∃ v, xxs[k]? = some v ∧ isSt H' v (S h (W way) k) := fun k hk H' t => by
      have lx : (standsL h way (way.length + 1))[k]? = some (S h (W way) k) := by
        unfold standsL
        rw [List.getElem?_map, List.getElem?_range (by omega)]
        rfl
      obtain ⟨v, hv, hs⟩ := pair_get' px lx
      exact ⟨v, hv, isSt_up t hs⟩
    -- found = []
    refine ⟨Nat.zero_le _, fun fa nf => ?_⟩
    have s2 := same_new (o := .lst []) nf
    -- for begin in range(len(way))
    refine ⟨_, rfl, aw, _, rfl, .inr (SqT.of (s2 _ _ haw)), ((wxs.length : Nat) : Int), rfl, by omega, by omega, ?_⟩
    rw [show ((wxs.length : Nat) : Int).toNat = way.length by omega]
    refine for_range (lo := 0) (n := way.length) (fun i σ H' => ∃ xs w6 w7 w8, σ = [some vh, some (.ref aw), some (.ref ax), some (.ref al), some z1, some (.ref fa), w6, w7, w8] ∧ Same H1 H' ∧ H' fa = some (.lst xs) ∧
        Paired (isSE h way H') xs (gv i (cond h (W way)) (fun k => k)))
      ⟨[], none, none, none, rfl, s2, upd_same, .nil⟩ ?_ ?_
    · rintro i σ H2 hi ⟨xs, w6, w7, w8, rfl, sm, hf, pf⟩
      have e0 : (0 : Int) + (i : Int) = (i : Int) := by omega
      show tIfS _ _ _ _ [some vh, some (.ref aw), some (.ref ax), some (.ref al), some z1, some (.ref fa), some (.int ((0 : Int) + (i : Int))), w7, w8] H2
      rw [e0]
      obtain ⟨vi, hvi, hsi⟩ := stand_at i (by omega) H2 sm.tk
      obtain ⟨b, hb⟩ : ∃ b, way[i]? = some b := ⟨way[i], List.getElem?_eq_getElem hi⟩
      have eb := W_get hb
      obtain ⟨vb, hvb, ⟨abt, bxs, rfl, hab, pb⟩⟩ := pair_get' pw hb
      have bl : bxs.length = b.length := pb.length
      have hlost : ((lostL h way way.length).map V.int)[i]? = some (.int ((lostN h (S h (W way) i) b : Nat) : Int)) := by
        unfold lostL
        rw [List.getElem?_map, List.getElem?_map, List.getElem?_range hi, ← eb]
        rfl
      -- the test
      refine ⟨cond h (W way) i, fun H3 => Same H2 H3, ?_, ?_⟩
      · refine ⟨_, rfl, _, rfl, ax, _, _, vi, rfl, rfl, SqT.of (sm _ _ hax), atI_nat hvi, Nat.zero_le _, fun p3 n3 => ?_⟩
        have s3 := same_new (o := .tup []) n3
        refine eq_nobody (isSt_up s3.tk hsi) upd_same ⟨_, rfl, ?_⟩
        unfold cond isE
        cases he : (S h (W way) i).isEmpty with
        | false => exact ⟨rfl, s3⟩
        | true =>
          refine ⟨_, rfl, _, rfl, al, _, _, _, rfl, rfl, SqT.of (s3 _ _ (sm _ _ hal)), atI_nat hlost, _, rfl, _, rfl, aw, _, _, _, rfl, rfl, SqT.of (s3 _ _ (sm _ _ haw)), atI_nat hvb, abt, _, rfl, .inr (SqT.of (s3 _ _ (sm _ _ hab))), _, _, rfl, rfl, _, rfl, ?_, s3⟩
          rw [Bool.true_and, eb, bl]
          exact decide_eq_decide.mpr (by omega)
      intro H3 s3
      have sm3 := sm.trans s3
      have hf3 := s3 _ _ hf
      have pf3 := pair_mono (fun _ _ z => isSE_up s3.tk z) pf
      clear sm hf pf s3 hsi
      refine ite2 (fun c => ?_) (fun c => ?_)
      · -- ends = [..]
        refine ⟨_, rfl, _, _, rfl, rfl, _, rfl, ax, _, rfl, .inr (SqT.of (sm3 _ _ hax)), (i : Int) + 1, ((xxs.length : Nat) : Int), rfl, ⟨by omega, by omega, by omega, by omega⟩, fun D hD => ?_⟩
        rw [show (((xxs.length : Nat) : Int) - ((i : Int) + 1)).toNat = way.length - i by omega]
        refine lc_range (lo := (i : Int) + 1) (n := way.length - i) (fun j H' => Same H3 H' ∧ H' D = some (.lst ((gv j (fun j => isE h (W way) (i + 1 + j)) (fun j => i + 1 + j)).map natV))) ⟨same_new hD, upd_same⟩ ?_ ?_
        · rintro j H4 hj ⟨sm4, hd⟩
          have ej : ((i : Int) + 1 + (j : Int)) = ((i + 1 + j : Nat) : Int) := by omega
          obtain ⟨vj, hvj, hsj⟩ := stand_at (i + 1 + j) (by omega) H4 (sm3.trans sm4).tk
          refine ⟨rfl, ?_⟩
          refine ⟨_, rfl, _, rfl, ax, _, _, vj, rfl, rfl, SqT.of ((sm3.trans sm4) _ _ hax), ?_, Nat.zero_le _, fun p5 n5 => ?_⟩
          · rw [ej]
            exact atI_nat hvj
          have s5 := same_new (o := .tup []) n5
          obtain ⟨g1, g2⟩ := gv_turn (g := natV) (n := j) (f := fun j => isE h (W way) (i + 1 + j)) (v := fun j => i + 1 + j) (by omega) hD (sm4.trans s5) (s5 _ _ hd)
          refine eq_nobody (isSt_up s5.tk hsj) upd_same ⟨_, rfl, ?_⟩
          refine ite2 (fun d => ⟨_, rfl, ?_⟩) (fun d => g2 ((Bool.not_eq_true _).mp d))
          show ∃ acc, _ ∧ _ ∧ Same H3 (upd _ D (.lst (acc ++ [.int ((i : Int) + 1 + (j : Int))]))) ∧ (upd _ D (.lst (acc ++ [.int ((i : Int) + 1 + (j : Int))]))) D = _
          rw [ej]
          exact g1 d
        · rintro H4 ⟨sm4, hd⟩
          have ee : gv (way.length - i) (fun j => isE h (W way) (i + 1 + j)) (fun j => i + 1 + j) = endsOf h (W way) way.length i := rfl
          rw [ee] at hd
          have el : (endsOf h (W way) way.length i).length ≤ way.length := Nat.le_trans (gv_len _ _ _) (Nat.sub_le _ _)
          generalize hes : endsOf h (W way) way.length i = es at hd el
          -- found.append((begin, ..))
          refine ⟨_, rfl, .inl ⟨rfl, _, SqL.of (sm4 _ _ hf3)⟩, _, rfl, ?_⟩
          have xfl : xs.length ≤ i := by
            rw [pf3.length]
            exact gv_len _ _ _
          refine ⟨fun v H5 => v = eV es ∧ Same H4 H5, ?_, ?_⟩
          · refine ⟨_, rfl, Nat.zero_le _, fun p6 n6 => ?_⟩
            have s6 := same_new (o := .lst []) n6
            have hd6 := s6 _ _ hd
            rw [map_nat] at hd6
            refine ne_noints (SqL.of hd6) upd_same ⟨_, rfl, ?_⟩
            cases es with
            | nil => exact ⟨rfl, s6⟩
            | cons e r => exact ⟨_, rfl, D, _, _, natV e, rfl, rfl, SqL.of (s6 _ _ hd), atI_nat (j := 0) rfl, rfl, s6⟩
          rintro v H5 ⟨rfl, s5⟩
          refine ⟨(by show 2 ≤ sizeLine; decide), fun t nt => ?_⟩
          have s7 := same_new (o := .tup [.int (i : Int), eV es]) nt
          have hf7 := s7 _ _ (s5 _ _ (sm4 _ _ hf3))
          refine ⟨fa, xs, _, rfl, rfl, hf7, by omega, ?_⟩
          have t8 := tk_lst (o := .lst (xs ++ [.ref t])) hf7
          have s47 := (sm4.trans s5).trans s7
          refine ⟨xs ++ [.ref t], _, _, _, rfl, same_mut (sm3.trans s47) nf, upd_same, ?_⟩
          rw [gv_yes c]
          refine pair_app (pair_mono (fun _ _ z => isSE_up t8 (isSE_up s47.tk z)) pf3) (.cons ⟨t, rfl, ?_⟩ .nil)
          rw [hes]
          exact t8 _ _ upd_same
      · refine ⟨xs, _, _, _, rfl, sm3, hf3, ?_⟩
        rw [gv_no ((Bool.not_eq_true _).mp c)]
        exact pf3
    · rintro σ H2 ⟨xs, w6, w7, w8, rfl, sm, hf, pf⟩
      have e : gv way.length (cond h (W way)) (fun k => k) = begins h (W way) way.length := by
        unfold gv begins
        exact List.map_id _
      rw [e] at pf
      exact ⟨_, rfl, q fa xs H2 (s01.free nf) (s01.trans sm) hf pf⟩
end
end Hw

/-! sums. -/
namespace Hw
open PySem HwB L2
theorem stays_snoc {R : List Row} {b e k : Nat} {r : Row} (h : R[k]? = some r) : staysIn (R.take (k + 1)) b e = staysIn (R.take k) b e + (if isG b e r = true then life r else 0) := by
  unfold staysIn
  rw [take_snoc h, List.filter_append, List.map_append, List.sum_append, List.filter_cons, List.filter_nil]
  split <;> simp
theorem waits_snoc {R : List Row} {b e k : Nat} {r : Row} (h : R[k]? = some r) : waitsIn (R.take (k + 1)) b e = waitsIn (R.take k) b e + (if isG b e r = true then (r.wts : Int) else 0) := by
  unfold waitsIn
  rw [take_snoc h, List.filter_append, List.map_append, List.sum_append, List.filter_cons, List.filter_nil]
  split <;> simp
/-- between b and e -/
def sumBet (f : Nat → Int) (b e : Nat) : Int := sumTo f e - sumTo f b
theorem sumBet_next (f : Nat → Int) (b i : Nat) : sumBet f b (b + (i + 1)) = sumBet f b (b + i) + f (b + i) := by
  unfold sumBet
  show sumTo f (b + i) + f (b + i) - _ = _
  omega
section
variable {P : Program} {w : World} {K : PySem.W.Frag} {mg : Str → Option Value} {base : Heap}
def isFour (H : Hp) (v : V) (a b c d : Int) : Prop := ∃ p, v = .ref p ∧ H p = some (.tup [.int a, .int b, .int c, .int d])
def spSums : Sp := fun vs H Q _ => ∃ (h : Hs) (way : List (List Com)) (vh vw : V) (b e : Nat), vs = [vh, vw, .int (b : Int), .int (e : Int)] ∧ isHs H vh h ∧ isWay H vw way ∧ 0 ≤ h.hands ∧ WOk way ∧ b ≤ e ∧ e ≤ way.length ∧
  ∀ v H', Same H H' → isFour H' v (staysIn (fo h (W way) way.length).rows b e) (sumBet (nIn h (W way)) b e) (waitsIn (fo h (W way) way.length).rows b e) (sumBet (nUn h (W way)) b e) → Q v H'
abbrev nSums : List Str := ["house", "way", "begin", "end", "stands", "stays", "waits", "course", "present", "unpicked", "moment", "inside"]
theorem scSums : FnScope nSums ["house", "way", "begin", "end"] (defScope sSums) := ⟨rfl, rfl, rfl, by decide +kernel, rfl, by decide +kernel, by decide +kernel⟩
theorem ok_sums {f : Addr} {fd : FuncData} (F : Fun K "sums" "sums" sSums f fd) (T : Blt mg) (CR : Has P w K mg base "run" 4 ["house", "way", "stand"] spRun) (CC : Has P w K mg base "courses" 5 ["house", "way"] spCourses)
    (CL : Has P w K mg base "let_in" 1 ["house", "stand", "beat"] spLetIn) (CP : Has P w K mg base "picked" 2 ["house", "stand"] spPicked) :
    FnOk P w K mg base CX0 6 f fd ["house", "way", "begin", "end"] spSums := by
  refine F.ok scSums (fun vs H Q E h => ?_) (fun cdv A outer s H vs Q E hr h => ?_)
  · obtain ⟨h, way, vh, vw, b, e, rfl, _⟩ := h
    rfl
  · obtain ⟨h, way, vh, vw, b, e, rfl, hh, hw, h0, hW, hbe, hen, q⟩ := h
    have nd := scSums.nd
    refine ⟨_, (pss_cons (ps_set (i := 4) nd rfl (Or.inl rfl) (pe_ix ix_tup (pe_has CR (hr.mono (by decide)) (pa_cons (pv 0) (pa_cons (pv 1) (pa_cons (pe_tup pa_nil) pa_nil)))) pe_int (fun _ _ => rfl)))
      (pss_cons (ps_set (i := 5) nd rfl (Or.inl rfl) pe_int)
      (pss_cons (ps_set (i := 6) nd rfl (Or.inl rfl) pe_int)
      (pss_cons (ps_for PassesOwn.never rfl (pi_list (pe_has CC (hr.mono (by decide)) (pa_cons (pv 0) (pa_cons (pv 1) pa_nil)))) (pg_name (i := 7) nd rfl (Or.inl rfl)) (pss_one (ps_if (pt_join (PW.pt (pw_and (pt_cmpR op_eq (pe_ix ix_tup (pv 7) pe_int (fun _ _ => rfl)) pe_str (nomark _)) (pw_and1 (pt_chain op_le op_lt (pv 2) (pe_ix ix_tup (pv 7) pe_int (fun _ _ => rfl)) (pv 3)))))) (pss_cons (ps_set (i := 5) nd rfl (Or.inl rfl) (pe_op op_sub (pe_op op_add (pv 5) (pe_ix ix_tup (pv 7) pe_int (fun _ _ => rfl))) (pe_ix ix_tup (pv 7) pe_int (fun _ _ => rfl))))
      (pss_one (ps_set (i := 6) nd rfl (Or.inl rfl) (pe_op op_add (pv 6) (pe_ix ix_tup (pv 7) pe_int (fun _ _ => rfl)))))) pss_nil)))
      (pss_cons (ps_set (i := 8) nd rfl (Or.inl rfl) pe_int)
      (pss_cons (ps_set (i := 9) nd rfl (Or.inl rfl) pe_int)
      (pss_cons (ps_for PassesOwn.never rfl (pi_range2 rfl T.range (pa_cons (pv 2) (pa_cons (pv 3) pa_nil))) (pg_name (i := 10) nd rfl (Or.inl rfl)) (pss_cons (ps_set (i := 11) nd rfl (Or.inl rfl) (pe_ix ix_tup (pe_has CL (hr.mono (by decide)) (pa_cons (pv 0) (pa_cons (pe_ix ix_tup (pv 4) (pv 10) (fun _ _ => rfl)) (pa_cons (pe_ix ix_tup (pv 1) (pv 10) (fun _ _ => rfl)) pa_nil)))) pe_int (fun _ _ => rfl)))
      (pss_cons (ps_set (i := 8) nd rfl (Or.inl rfl) (pe_op op_add (pv 8) (pe_callB call_len_seq (by rfl) T.len PySem.boot_len (pa_cons (pv 11) pa_nil))))
      (pss_one (ps_set (i := 9) nd rfl (Or.inl rfl) (pe_op op_sub (pe_op op_add (pv 9) (pe_callB call_len_seq (by rfl) T.len PySem.boot_len (pa_cons (pv 11) pa_nil))) (pe_callB call_len_seq (by rfl) T.len PySem.boot_len (pa_cons (pe_has CP (hr.mono (by decide)) (pa_cons (pv 0) (pa_cons (pv 11) pa_nil))) pa_nil))))))))
      (pss_one (ps_ret (pe_tup (pa_cons (pv 5) (pa_cons (pv 8) (pa_cons (pv 6) (pa_cons (pv 9) pa_nil)))))))))))))), ?_⟩
    have wlen := hW.len
    have four : (4 : Nat) ≤ sizeLine := by decide
    -- stands = run(house, way, ())[0]
    refine ⟨_, rfl, _, rfl, Nat.zero_le _, fun p0 n0 => ?_⟩
    have s0 : Same H (upd H p0 (.tup [])) := same_new n0
    refine ⟨h, way, _, _, _, rfl, isHs_up s0.tk hh, isWay_up s0.tk hw, ⟨p0, [], rfl, upd_same, .nil⟩, h0, hW, fun v1 H1 s1 hv1 => ?_⟩
    obtain ⟨a1, x1, y1, z1, rfl, ha1, ⟨ax, xxs, rfl, hax, px⟩, -, -⟩ := hv1
    refine ⟨a1, _, _, _, rfl, rfl, SqT.of ha1, atI_nat (j := 0) rfl, ?_⟩
    have s01 := s0.trans s1
    clear ha1 s0 s1 n0
    have xl : xxs.length = way.length + 1 := by
      rw [px.length]
      unfold standsL
      rw [List.length_map, List.length_range]
    have stand_at : ∀ k, k ≤ way.length → ∀ H', TK H1 H' → ∃ v, xxs[k]? = some v ∧ isSt H' v (S h (W way) k) := fun k hk H' t => by
      have lx : (standsL h way (way.length + 1))[k]? = some (S h (W way) k) := by
        unfold standsL
        rw [List.getElem?_map, List.getElem?_range (by omega)]
        rfl
      obtain ⟨v, hv, hs⟩ := pair_get' px lx
      exact ⟨v, hv, isSt_up t hs⟩
    -- stays = 0; waits = 0; for course in courses(house, way)
    have hh1 := isHs_up s01.tk hh
    have hw1 := isWay_up s01.tk hw
    refine ⟨_, rfl, _, rfl, h, way, _, _, rfl, hh1, hw1, h0, hW, fun ac cxs H2 nac s2 hac pc => ?_⟩
    generalize hR : (fo h (W way) way.length).rows = R at pc q
    have cl : cxs.length = R.length := pc.length
    have s02 := s01.trans s2
    refine ⟨ac, rfl, ⟨_, SqL.of hac⟩, for_list (K := K) (a := ac) (xs := cxs)
      (fun k σ H' => ∃ w7 , σ = [some vh, some vw, some (.int (b : Int)), some (.int (e : Int)), some (.ref ax), some (.int (staysIn (R.take k) b e)), some (.int (waitsIn (R.take k) b e)), w7, none, none, none, none] ∧ Same H2 H')
      ⟨_, rfl, Same.refl _⟩ (fun k σ H' _ ⟨_, _, sm⟩ => SqL.of (sm _ _ hac)) ?_ ?_⟩
    · rintro k y σ H3 hi ⟨w7, rfl, sm⟩
      obtain ⟨r, hr', ar, rfl, har⟩ := pair_get pc hi
      have har3 := sm _ _ har
      rw [stays_snoc hr', waits_snoc hr']
      refine ⟨isG b e r, fun H4 => H4 = H3, ?_, ?_⟩
      · obtain ⟨rb, re, rw_, rg⟩ := r
        cases re with
        | false =>
          refine ⟨_, rfl, ar, _, _, _, rfl, rfl, SqT.of har3, atI_nat (j := 0) rfl, rfl, _, rfl, ?_⟩
          exact ite2 (fun c => absurd (V.str.inj (of_decide_eq_true c) : ("lost" : Str) = "gone") (by decide +kernel)) (fun _ => ⟨rfl, rfl⟩)
        | true =>
          cases rg with
          | none =>
            refine ⟨_, rfl, ar, _, _, _, rfl, rfl, SqT.of har3, atI_nat (j := 0) rfl, rfl, _, rfl, ?_⟩
            exact ite2 (fun c => absurd (V.str.inj (of_decide_eq_true c) : ("in" : Str) = "gone") (by decide +kernel)) (fun _ => ⟨rfl, rfl⟩)
          | some m =>
            refine ⟨_, rfl, ar, _, _, _, rfl, rfl, SqT.of har3, atI_nat (j := 0) rfl, rfl, _, rfl, ?_⟩
            refine ite2 (fun _ => ?_) (fun c => absurd (decide_eq_true rfl) c)
            refine ⟨_, rfl, _, rfl, ar, _, _, _, rfl, rfl, SqT.of har3, atI_nat (j := 1) rfl, _, _, rfl, rfl, _, rfl, ?_⟩
            have eg : isG b e ⟨rb, true, rw_, some m⟩ = (decide ((b : Int) ≤ (rb : Int)) && decide ((rb : Int) < (e : Int))) := by
              show (true && true && (decide (b ≤ rb) && decide (rb < e))) = _
              rw [Bool.and_self, Bool.true_and]
              congr 1 <;> exact decide_eq_decide.mpr (by omega)
            rw [eg]
            refine ite2 (fun c => ?_) (fun c => ?_)
            · refine ⟨_, rfl, _, _, rfl, rfl, _, rfl, ?_, rfl⟩
              rw [c, Bool.true_and]
            · refine ⟨_, rfl, ?_, rfl⟩
              rw [(Bool.not_eq_true _).mp c, Bool.false_and]
      rintro H4 rfl
      refine ite2 (fun c => ?_) (fun c => ?_)
      · obtain ⟨rb, re, rw_, rg⟩ := r
        cases re with
        | false => cases c
        | true =>
          cases rg with
          | none => cases c
          | some m =>
            refine ⟨_, rfl, _, rfl, ar, _, _, _, rfl, rfl, SqT.of har3, atI_nat (j := 2) rfl, _, _, rfl, rfl, _, rfl, ar, _, _, _, rfl, rfl, SqT.of har3, atI_nat (j := 1) rfl, _, _, rfl, rfl, ?_⟩
            refine ⟨_, rfl, _, rfl, ar, _, _, _, rfl, rfl, SqT.of har3, atI_nat (j := 3) rfl, _, _, rfl, rfl, ?_⟩
            refine ⟨some (.ref ar), ?_, sm⟩
            rw [if_pos c, if_pos c]
            have e1 : staysIn (R.take k) b e + life ⟨rb, true, rw_, some m⟩ = staysIn (R.take k) b e + (m : Int) - (rb : Int) := by
              show _ + ((m : Int) - (rb : Int)) = _
              omega
            rw [e1]
            rfl
      · refine ⟨some (.ref ar), ?_, sm⟩
        rw [if_neg c, if_neg c, Int.add_zero, Int.add_zero]
        rfl
    · rintro σ H3 ⟨w7, rfl, sm3⟩
      rw [cl, List.take_length]
      -- present = 0; unpicked = 0; for moment in range(begin, end)
      refine ⟨_, rfl, _, rfl, (b : Int), (e : Int), rfl, ⟨by omega, by omega, by omega, by omega⟩, ?_⟩
      rw [show ((e : Int) - (b : Int)).toNat = e - b by omega]
      refine for_range (lo := (b : Int)) (n := e - b) (fun i σ H' => ∃ w10 w11, σ = [some vh, some vw, some (.int (b : Int)), some (.int (e : Int)), some (.ref ax), some (.int (staysIn R b e)), some (.int (waitsIn R b e)), w7,
          some (.int (sumBet (nIn h (W way)) b (b + i))), some (.int (sumBet (nUn h (W way)) b (b + i))), w10, w11] ∧ Same H2 H')
        ⟨none, none, ?_, sm3⟩ ?_ ?_
      · have z : ∀ f : Nat → Int, sumBet f b (b + 0) = 0 := fun f => by
          show sumTo f b - sumTo f b = 0
          omega
        rw [z, z]
        rfl
      · rintro i σ H4 hi ⟨w10, w11, rfl, sm4⟩
        have e0 : ((b : Int) + (i : Int)) = ((b + i : Nat) : Int) := by omega
        have s24 : Same H1 H4 := s2.trans sm4
        obtain ⟨vi, hvi, hsi⟩ := stand_at (b + i) (by omega) H4 s24.tk
        obtain ⟨aw, wxs, rfl, haw, pw⟩ := isWay_up s24.tk hw1
        obtain ⟨bt, hbt⟩ : ∃ bt, way[b + i]? = some bt := ⟨way[b + i]'(by omega), List.getElem?_eq_getElem (by omega)⟩
        have eb := W_get hbt
        obtain ⟨vb, hvb, hb4⟩ := pair_get' pw hbt
        have bound : (S h (W way) (b + i)).length + bt.length ≤ 10000 := by
          have a1 := S_len h (W way) (b + i)
          have a2 := hW.many (b + i + 1)
          have a3 : manyTo (W way) (b + i + 1) = manyTo (W way) (b + i) + bt.length := by rw [← eb]; rfl
          omega
        have at1 : atI xxs ((b : Int) + (i : Int)) = some vi := by rw [e0]; exact atI_nat hvi
        have at2 : atI wxs ((b : Int) + (i : Int)) = some vb := by rw [e0]; exact atI_nat hvb
        -- inside = let_in(house, stands[moment], way[moment])[0]
        refine ⟨_, rfl, _, rfl, _, rfl, ax, _, _, vi, rfl, rfl, SqT.of (s24 _ _ hax), at1, _, rfl, _, rfl, aw, _, _, vb, rfl, rfl, SqT.of haw, at2, ?_⟩
        refine ⟨h, _, bt, _, _, _, rfl, isHs_up s24.tk hh1, hsi, hb4, bound, fun v5 H5 s5 hv5 => ?_⟩
        obtain ⟨a5, x5, rfl, ha5, hin⟩ := hv5
        refine ⟨a5, _, _, _, rfl, rfl, SqT.of ha5, atI_nat (j := 0) rfl, ?_⟩
        have ein : Ins h (W way) (b + i) = ins h (S h (W way) (b + i)) bt := by rw [← eb]; rfl
        rw [← ein] at hin
        have hh5 := isHs_up (s24.trans s5).tk hh1
        have il := Ins_len h (W way) (b + i)
        have ml := hW.many (b + i + 1)
        obtain ⟨ai, ixs, rfl, hai, pin⟩ := id hin
        have ixl : ixs.length = (Ins h (W way) (b + i)).length := pin.length
        -- present = present + len(inside)
        refine ⟨_, rfl, _, rfl, ai, _, rfl, .inr (SqT.of hai), _, _, rfl, rfl, ?_⟩
        -- unpicked = unpicked + len(inside) - len(picked(house, inside))
        refine ⟨_, rfl, _, rfl, ai, _, rfl, .inr (SqT.of hai), _, _, rfl, rfl, _, rfl, _, rfl, ?_⟩
        refine ⟨h, Ins h (W way) (b + i), _, _, rfl, hh5, hin, h0, by omega, fun v6 H6 s6 hv6 => ?_⟩
        obtain ⟨ap, rfl, hap⟩ := hv6
        refine ⟨ap, _, rfl, .inr (SqT.of hap), _, _, rfl, rfl, ?_⟩
        refine ⟨some (.int ((b : Int) + (i : Int))), some (.ref ai), ?_, (sm4.trans s5).trans s6⟩
        rw [sumBet_next, sumBet_next]
        have e1 : sumBet (nIn h (W way)) b (b + i) + ((ixs.length : Nat) : Int) = sumBet (nIn h (W way)) b (b + i) + nIn h (W way) (b + i) := by rw [ixl]; rfl
        have e2 : sumBet (nUn h (W way)) b (b + i) + ((ixs.length : Nat) : Int) - ((((pk h (Ins h (W way) (b + i))).map V.int).length : Nat) : Int) = sumBet (nUn h (W way)) b (b + i) + nUn h (W way) (b + i) := by
          rw [ixl, List.length_map]
          show _ = _ + (((Ins h (W way) (b + i)).length : Int) - ((pk h (Ins h (W way) (b + i))).length : Int))
          omega
        rw [← e1, ← e2]
        rfl
      · rintro σ H4 ⟨w10, w11, rfl, sm4⟩
        rw [show b + (e - b) = e by omega]
        refine ⟨_, rfl, _, rfl, _, rfl, _, rfl, four, fun p np => ?_⟩
        exact q _ _ ((s02.trans sm4).trans (same_new np)) ⟨p, rfl, upd_same⟩
end
end Hw

/-! The law's feed. -/
namespace Hw
open PySem HwB L2
/-- all that was tracked is as it was, but at p -/
def Keep (p : Addr) (H H' : Hp) : Prop := ∀ b o, H b = some o → b ≠ p → H' b = some o
theorem Keep.refl (p : Addr) (H : Hp) : Keep p H H := fun _ _ h _ => h
theorem Keep.trans {p : Addr} {H H1 H2 : Hp} (a : Keep p H H1) (b : Keep p H1 H2) : Keep p H H2 := fun c o h n => b c o (a c o h n) n
theorem Keep.of {p : Addr} {H H' : Hp} (s : Same H H') : Keep p H H' := fun b o h _ => s b o h
theorem Keep.mut {p q : Addr} {H H' : Hp} {o : HO} (k : Keep p H H') (h : H q = none) : Keep p H (upd H' q o) := fun b u e n => by
  rw [upd_ne (ne_of_none e h)]
  exact k b u e n
theorem Keep.own {p : Addr} {H H' : Hp} {o : HO} (k : Keep p H H') : Keep p H (upd H' p o) := fun b u e n => by
  rw [upd_ne n]
  exact k b u e n
theorem Keep.free {p q : Addr} {H H' : Hp} (k : Keep p H H') (hq : H' q = none) (n : q ≠ p) : H q = none := by
  cases e : H q with
  | none => rfl
  | some o =>
    rw [k q o e n] at hq
    cases hq
/-- the feed at p: its cells at l, which is next (at most n), what is left of a great one -/
def FeedAt (H : Hp) (p l : Addr) (n : Int) : Prop := ∃ (ns : List Int) (k z : Int), H p = some (.lst [.ref l, .int k, .int z]) ∧ H l = some (.lst (ns.map V.int)) ∧ ns.length ≤ 63 ∧ 0 ≤ k ∧ k ≤ n ∧ 0 ≤ z
theorem FeedAt.lst {H : Hp} {p l : Addr} {n : Int} (F : FeedAt H p l n) : ∃ xs, H p = some (.lst xs) := by
  obtain ⟨ns, k, z, h, _⟩ := F
  exact ⟨_, h⟩
theorem FeedAt.lst2 {H : Hp} {p l : Addr} {n : Int} (F : FeedAt H p l n) : ∃ xs, H l = some (.lst xs) := by
  obtain ⟨ns, k, z, _, h, _⟩ := F
  exact ⟨_, h⟩
theorem FeedAt.ne {H : Hp} {p l : Addr} {n : Int} (F : FeedAt H p l n) : l ≠ p := by
  obtain ⟨ns, k, z, h1, h2, _⟩ := F
  refine ne_of h2 h1 fun e => ?_
  have e' := HO.lst.inj e
  cases ns with
  | nil => cases e'
  | cons a r => cases e'
theorem FeedAt.same {H H' : Hp} {p l : Addr} {n : Int} (s : Same H H') (F : FeedAt H p l n) : FeedAt H' p l n := by
  obtain ⟨ns, k, z, h1, h2, h3⟩ := F
  exact ⟨ns, k, z, s _ _ h1, s _ _ h2, h3⟩
theorem FeedAt.mut {H : Hp} {p l q : Addr} {n : Int} {o : HO} (F : FeedAt H p l n) (n1 : p ≠ q) (n2 : l ≠ q) : FeedAt (upd H q o) p l n := by
  obtain ⟨ns, k, z, h1, h2, h3⟩ := F
  exact ⟨ns, k, z, (upd_ne n1).trans h1, (upd_ne n2).trans h2, h3⟩
theorem FeedAt.up {H : Hp} {p l : Addr} {n m : Int} (h : n ≤ m) (F : FeedAt H p l n) : FeedAt H p l m := by
  obtain ⟨ns, k, z, h1, h2, h3, h4, h5, h6⟩ := F
  exact ⟨ns, k, z, h1, h2, h3, h4, by omega, h6⟩
theorem Keep.tk {p : Addr} {H H' : Hp} {xs : List V} (k : Keep p H H') (h : H p = some (.lst xs)) : TK H H' := fun b ys e => k b _ e (ne_of e h (by intro z; cases z))
theorem Keep.ftk {p l : Addr} {H H' : Hp} {n : Int} (k : Keep p H H') (F : FeedAt H p l n) : TK H H' := by
  obtain ⟨xs, h⟩ := F.lst
  exact k.tk h
theorem fmod_b {x m : Int} (hm : 0 < m) : 0 ≤ x.fmod m ∧ x.fmod m < m := by
  rw [Int.fmod_eq_emod_of_nonneg x (by omega)]
  exact ⟨Int.emod_nonneg x (by omega), Int.emod_lt_of_pos x hm⟩
theorem fdiv_nn {x m : Int} (hx : 0 ≤ x) (hm : 0 < m) : 0 ≤ x.fdiv m := by
  rw [Int.fdiv_eq_ediv_of_nonneg x (by omega)]
  exact Int.ediv_nonneg hx (by omega)
section
variable {P : Program} {w : World} {K : PySem.W.Frag} {mg : Str → Option Value} {base : Heap}
/-! ### _law_feed -/
def spFeed (K : PySem.W.Frag) : Sp := fun vs H Q _ => ∃ (a : Addr) (ns : List Int), vs = [.ref a] ∧ SqL K H a (ns.map V.int) ∧ ∀ p l H', H p = none → Same H H' → FeedAt H' p l 0 → Q (.ref p) H'
theorem scFeed : FnScope ["_law_script"] ["_law_script"] (defScope sFeed) := ⟨rfl, rfl, rfl, by decide +kernel, rfl, by decide +kernel, by decide +kernel⟩
theorem cut_to' (xs : List V) (k : Nat) : cutV xs none (some (k : Int)) = xs.take k := by
  unfold cutV
  rw [HT.sIx_nat xs.length xs.length k, HT.sIx_none, List.drop_zero, Nat.sub_zero]
  by_cases h : k ≤ xs.length
  · rw [Nat.min_eq_left h]
  · rw [Nat.min_eq_right (by omega), List.take_length, List.take_of_length_le (by omega)]
theorem ok_feed {f : Addr} {fd : FuncData} (F : Fun K "_law_feed" "_law_feed" sFeed f fd) (T : Blt mg) : FnOk P w K mg base CX0 1 f fd ["_law_script"] (spFeed K) := by
  refine F.ok scFeed (fun vs H Q E h => ?_) (fun cdv A outer s H vs Q E hr h => ?_)
  · obtain ⟨a, ns, rfl, _⟩ := h
    rfl
  · obtain ⟨a, ns, rfl, ha, q⟩ := h
    refine ⟨_, (pss_one (ps_ret (pe_lst (pa_cons (pe_callTy call_list_of (by rfl) T.list (by decide +kernel) (pa_cons (pe_slice sl_list (pv 0) po_none (po_some pe_int)) pa_nil)) (pa_cons pe_int (pa_cons pe_int pa_nil)))))), ?_⟩
    refine ⟨_, rfl, _, rfl, a, _, rfl, ha, fun c nc => ?_⟩
    have s1 := same_new (o := .lst (cutV (ns.map V.int) none (some 63))) nc
    refine ⟨c, _, rfl, .inl (SqL.of upd_same), fun l nl => ⟨(by show 3 ≤ sizeLine; decide), fun p np => ?_⟩⟩
    have s2 := same_new (o := .lst (cutV (ns.map V.int) none (some 63))) nl
    have s3 := same_new (o := .lst [.ref l, .int 0, .int 0]) np
    refine q p l _ ((s1.trans s2).free np) ((s1.trans s2).trans s3) ⟨ns.take 63, 0, 0, upd_same, ?_, by rw [List.length_take]; omega, by omega, by omega, by omega⟩
    refine s3 _ _ ?_
    rw [upd_same, show (63 : Int) = ((63 : Nat) : Int) from rfl, cut_to', List.map_take]
/-! ### _law_next -/
def spNext : Sp := fun vs H Q _ => ∃ (p l : Addr) (m n : Int), vs = [.ref p, .int m] ∧ 1 ≤ m ∧ m ≤ 1000 ∧ FeedAt H p l n ∧ n ≤ 5000 ∧
  ∀ d H', 0 ≤ d → d < m → FeedAt H' p l (n + 1) → Keep p H H' → Q (.int d) H'
theorem scNext : FnScope ["_law_feed_here", "_law_many", "_law_digit", "_law_at", "_law_cell", "_law_first"] ["_law_feed_here", "_law_many"] (defScope sNext) := ⟨rfl, rfl, rfl, by decide +kernel, rfl, by decide +kernel, by decide +kernel⟩
theorem ok_next {f : Addr} {fd : FuncData} (F : Fun K "_law_next" "_law_next" sNext f fd) (T : Blt mg) : FnOk P w K mg base CX0 1 f fd ["_law_feed_here", "_law_many"] spNext := by
  refine F.ok scNext (fun vs H Q E h => ?_) (fun cdv A outer s H vs Q E hr h => ?_)
  · obtain ⟨p, l, m, n, rfl, _⟩ := h
    rfl
  · obtain ⟨p, l, m, n, rfl, m1, m2, FA, hn, q⟩ := h
    have nd := scNext.nd
    have nlp := FA.ne
    obtain ⟨ns, k, z, hp, hl, nsl, k0, kn, z0⟩ := FA
    refine ⟨_, (pss_cons (ps_if (pt_cmpR op_gt (pe_ix ix_list (pv 0) pe_int (fun _ _ => rfl)) pe_int (nomark _)) (pss_cons (ps_set (i := 2) nd rfl (Or.inl rfl) (pe_op op_modN (pe_ix ix_list (pv 0) pe_int (fun _ _ => rfl)) (pv 1)))
      (pss_cons (ps_asg (pe_op op_fdivN (pe_ix ix_list (pv 0) pe_int (fun _ _ => rfl)) (pv 1)) (pg_sub (pv 0) pe_int set_list))
      (pss_one (ps_ret (pv 2))))) pss_nil)
      (pss_cons (ps_set (i := 3) nd rfl (Or.inl rfl) (pe_ix ix_list (pv 0) pe_int (fun _ _ => rfl)))
      (pss_cons (ps_asg (pe_op op_add (pv 3) pe_int) (pg_sub (pv 0) pe_int set_list))
      (pss_cons (ps_set (i := 4) nd rfl (Or.inl rfl) (pe_say (pe_ifExp (pt_cmpR (op_neD hr.units) (pe_ix ix_list (pv 0) pe_int (fun _ _ => rfl)) (pe_lst pa_nil) (nomark _)) (pe_ix ix_list (pe_ix ix_list (pv 0) pe_int (fun _ _ => rfl)) (pe_op op_modN (pv 3) (pe_callB call_len_seq (by rfl) T.len PySem.boot_len (pa_cons (pe_ix ix_list (pv 0) pe_int (fun _ _ => rfl)) pa_nil))) (fun _ _ => rfl)) pe_int)))
      (pss_cons (ps_if (pt_join (PW.pt (pw_and (pt_cmpR op_ge (pv 4) (pe_op op_pow pe_int pe_int) (nomark _)) (pw_and1 (pt_cmpR op_lt (pv 3) (pe_callB call_len_seq (by rfl) T.len PySem.boot_len (pa_cons (pe_ix ix_list (pv 0) pe_int (fun _ _ => rfl)) pa_nil)) (nomark _)))))) (pss_cons (ps_asg (pe_op op_fdivN (pv 4) (pv 1)) (pg_sub (pv 0) pe_int set_list))
      (pss_one (ps_ret (pe_op op_modN (pv 4) (pv 1))))) pss_nil)
      (pss_cons (ps_set (i := 5) nd rfl (Or.inl rfl) (pe_op op_modN (pe_op op_mul (pe_op op_add (pe_op op_add (pe_op op_add (pe_op op_modN (pv 4) pe_int) (pe_op op_mul (pe_op op_mul pe_int (pv 3)) (pv 3))) (pe_op op_mul pe_int (pv 3))) pe_int) pe_int) pe_int))
      (pss_one (ps_ret (pe_op op_modN (pe_op op_fdivN (pe_op op_modN (pe_op op_mul (pe_op op_modN (pe_op op_add (pe_op op_add (pe_op op_mul (pv 5) (pv 5)) (pe_op op_mul pe_int (pv 3))) pe_int) pe_int) pe_int) pe_int) pe_int) (pv 1)))))))))), ?_⟩
    have mN : m ≠ 0 ∧ m.natAbs < 1073741824 := ⟨by omega, by omega⟩
    -- if feed[2] > 0
    refine ⟨_, rfl, p, _, _, _, rfl, rfl, SqL.of hp, atI_nat (j := 2) rfl, _, _, rfl, rfl, _, rfl, ?_⟩
    refine ite2 (fun c => ?_) (fun c => ?_)
    · refine ⟨_, rfl, p, _, _, _, rfl, rfl, SqL.of hp, atI_nat (j := 2) rfl, _, rfl, _, _, rfl, rfl, mN.1, ?_⟩
      refine ⟨_, rfl, p, _, _, _, rfl, rfl, SqL.of hp, atI_nat (j := 2) rfl, _, rfl, _, _, rfl, rfl, mN, ?_⟩
      refine ⟨_, rfl, p, _, 2, 2, rfl, rfl, hp, rfl, ?_⟩
      refine ⟨_, rfl, ?_⟩
      have b := fmod_b (x := z) (m := m) (by omega)
      exact q _ _ b.1 b.2 ⟨ns, k, z.fdiv m, upd_same, (upd_ne nlp).trans hl, nsl, k0, by omega, fdiv_nn z0 (by omega)⟩ (Keep.refl p H).own
    · -- at = feed[1]; feed[1] = at + 1
      refine ⟨_, rfl, p, _, _, _, rfl, rfl, SqL.of hp, atI_nat (j := 1) rfl, ?_⟩
      refine ⟨_, rfl, _, _, rfl, rfl, _, rfl, p, _, 1, 1, rfl, rfl, hp, rfl, ?_⟩
      have hp1 : (upd H p (.lst [.ref l, .int (k + 1), .int z])) p = some (.lst [.ref l, .int (k + 1), .int z]) := upd_same
      have hl1 : (upd H p (.lst [.ref l, .int (k + 1), .int z])) l = some (.lst (ns.map V.int)) := (upd_ne nlp).trans hl
      have K1 : Keep p H (upd H p (.lst [.ref l, .int (k + 1), .int z])) := (Keep.refl p H).own
      have lenl : (ns.map V.int).length = ns.length := List.length_map _
      -- cell = ..
      refine ⟨fun v H2 => ∃ c, v = .int c ∧ Same (upd H p (.lst [.ref l, .int (k + 1), .int z])) H2, ?_, ?_⟩
      · refine ⟨_, rfl, p, _, _, _, rfl, rfl, SqL.of hp1, atI_nat (j := 0) rfl, Nat.zero_le _, fun e ne => ?_⟩
        have s2 := same_new (o := .lst []) ne
        refine ne_noints (SqL.of (s2 _ _ hl1)) upd_same ⟨_, rfl, ?_⟩
        refine ite2 (fun d => ?_) (fun d => ⟨0, rfl, s2⟩)
        have npos : 0 < ns.length := by
          cases ns with
          | nil => cases d
          | cons a r => simp
        have fb := fmod_b (x := k) (m := ((ns.map V.int).length : Nat)) (by omega)
        refine ⟨_, rfl, p, _, _, _, rfl, rfl, SqL.of (s2 _ _ hp1), atI_nat (j := 0) rfl, _, rfl, _, rfl, p, _, _, _, rfl, rfl, SqL.of (s2 _ _ hp1), atI_nat (j := 0) rfl, l, _, rfl, .inl (SqL.of (s2 _ _ hl1)), _, _, rfl, rfl, (by show ((ns.map V.int).length : Int) ≠ 0; omega), ?_⟩
        refine ⟨l, _, _, .int (ns.getD (k.fmod ((ns.map V.int).length : Nat)).toNat 0), rfl, rfl, SqL.of (s2 _ _ hl1), ?_, _, rfl, s2⟩
        refine at_of (j := (k.fmod ((ns.map V.int).length : Nat)).toNat) (by omega) ?_
        have il : (k.fmod ((ns.map V.int).length : Nat)).toNat < ns.length := by omega
        rw [List.getElem?_map, List.getElem?_eq_getElem il, List.getD_eq_getElem?_getD, List.getElem?_eq_getElem il]
        rfl
      rintro v H2 ⟨c2, rfl, s2⟩
      have hp2 := s2 _ _ hp1
      have hl2 := s2 _ _ hl1
      have K2 := K1.trans (Keep.of (p := p) s2)
      -- if cell >= 10 ** 18 and at < len(feed[0])
      refine ⟨decide ((10 : Int) ^ (18 : Int).toNat ≤ c2) && decide (k < ((ns.map V.int).length : Nat)), fun H3 => H3 = H2, ?_, ?_⟩
      · refine ⟨_, rfl, _, _, rfl, rfl, ⟨by omega, by omega, by decide⟩, _, _, rfl, rfl, _, rfl, ?_⟩
        refine ite2 (fun d => ?_) (fun d => ⟨?_, rfl⟩)
        · refine ⟨_, rfl, _, rfl, p, _, _, _, rfl, rfl, SqL.of hp2, atI_nat (j := 0) rfl, l, _, rfl, .inl (SqL.of hl2), _, _, rfl, rfl, _, rfl, ?_, rfl⟩
          rw [d, Bool.true_and]
        · rw [(Bool.not_eq_true _).mp d, Bool.false_and]
      rintro H3 rfl
      refine ite2 (fun d => ?_) (fun d => ?_)
      · have d' := of_decide_eq_true (Bool.and_eq_true_iff.mp d).1
        have c0 : 0 ≤ c2 := by
          have e : (10 : Int) ^ (18 : Int).toNat = 1000000000000000000 := by decide
          omega
        refine ⟨_, rfl, _, rfl, _, _, rfl, rfl, mN, _, rfl, p, _, 2, 2, rfl, rfl, hp2, rfl, ?_⟩
        refine ⟨_, rfl, _, rfl, _, _, rfl, rfl, mN.1, ?_⟩
        have b := fmod_b (x := c2) (m := m) (by omega)
        exact q _ _ b.1 b.2 ⟨ns, k + 1, c2.fdiv m, upd_same, (upd_ne nlp).trans hl2, nsl, by omega, by omega, fdiv_nn c0 (by omega)⟩ K2.own
      · -- first = ..
        have c1 := fmod_b (x := c2) (m := 1000003) (by omega)
        have kk : 0 ≤ 37 * k * k ∧ 37 * k * k ≤ 37 * 5000 * 5000 := ⟨Int.mul_nonneg (by omega) k0, Int.mul_le_mul (by omega) (by omega) k0 (by omega)⟩
        refine ⟨_, rfl, _, _, rfl, rfl, (by decide : (1000003 : Int) ≠ 0), _, rfl, _, _, rfl, rfl, .inl ⟨by omega, by omega⟩, _, rfl, _, _, rfl, rfl, .inl ⟨by omega, by omega⟩, _, _, rfl, rfl, _, rfl, _, _, rfl, rfl, .inl ⟨by omega, by omega⟩, _, _, rfl, rfl, _, _, rfl, rfl, ?_⟩
        refine ⟨_, _, rfl, rfl, .inl ⟨by omega, by omega⟩, _, _, rfl, rfl, (by decide : (999983 : Int) ≠ 0), ?_⟩
        have f1 := fmod_b (x := (c2.fmod 1000003 + 37 * k * k + 13 * k + 5) * 48271) (m := 999983) (by omega)
        -- return ..
        refine ⟨_, rfl, _, rfl, _, _, rfl, rfl, .inl ⟨by omega, by omega⟩, _, rfl, _, _, rfl, rfl, .inl ⟨by omega, by omega⟩, _, _, rfl, rfl, _, _, rfl, rfl, _, _, rfl, rfl, (by decide : (2097143 : Int) ≠ 0), ?_⟩
        have ff : 0 ≤ (((c2.fmod 1000003 + 37 * k * k + 13 * k + 5) * 48271).fmod 999983) * (((c2.fmod 1000003 + 37 * k * k + 13 * k + 5) * 48271).fmod 999983) ∧ (((c2.fmod 1000003 + 37 * k * k + 13 * k + 5) * 48271).fmod 999983) * (((c2.fmod 1000003 + 37 * k * k + 13 * k + 5) * 48271).fmod 999983) ≤ 999983 * 999983 := ⟨Int.mul_nonneg f1.1 f1.1, Int.mul_le_mul (by omega) (by omega) f1.1 (by omega)⟩
        have g1 := fmod_b (x := (((c2.fmod 1000003 + 37 * k * k + 13 * k + 5) * 48271).fmod 999983) * (((c2.fmod 1000003 + 37 * k * k + 13 * k + 5) * 48271).fmod 999983) + 7919 * k + 11) (m := 2097143) (by omega)
        refine ⟨_, _, rfl, rfl, .inl ⟨by omega, by omega⟩, _, _, rfl, rfl, (by decide : (2147483629 : Int) ≠ 0), _, _, rfl, rfl, ⟨by decide, by decide⟩, _, rfl, _, _, rfl, rfl, mN.1, ?_⟩
        have b := fmod_b (x := ((((((c2.fmod 1000003 + 37 * k * k + 13 * k + 5) * 48271).fmod 999983) * (((c2.fmod 1000003 + 37 * k * k + 13 * k + 5) * 48271).fmod 999983) + 7919 * k + 11).fmod 2097143 * 69621).fmod 2147483629).fdiv 7) (m := m) (by omega)
        exact q _ _ b.1 b.2 ⟨ns, k + 1, z, hp2, hl2, nsl, by omega, by omega, z0⟩ K2
end
end Hw

/-! The law's house and way. -/
namespace Hw
open PySem HwB L2
section
variable {P : Program} {w : World} {K : PySem.W.Frag} {mg : Str → Option Value} {base : Heap}
theorem FeedAt.ne_new {H : Hp} {p l q : Addr} {n : Int} (F : FeedAt H p l n) (h : H q = none) : p ≠ q ∧ l ≠ q := by
  obtain ⟨ns, k, z, h1, h2, _⟩ := F
  exact ⟨ne_of_none h1 h, ne_of_none h2 h⟩
/-- the feed where something new stands -/
theorem FeedAt.new {H : Hp} {p l q : Addr} {n : Int} {o : HO} (F : FeedAt H p l n) (h : H q = none) : FeedAt (upd H q o) p l n := F.mut (F.ne_new h).1 (F.ne_new h).2
theorem at_map {α : Type} {g : α → V} {l : List α} {d : Int} (h0 : 0 ≤ d) (h1 : d < (l.length : Int)) : ∃ x ∈ l, atI (l.map g) d = some (g x) := by
  have hl : d.toNat < l.length := by omega
  refine ⟨l[d.toNat], List.getElem_mem hl, ?_⟩
  have e := atI_nat (xs := l.map g) (j := d.toNat) (v := g l[d.toNat]) (by rw [List.getElem?_map, List.getElem?_eq_getElem hl]; rfl)
  rw [show ((d.toNat : Nat) : Int) = d by omega] at e
  exact e
/-! ### _law_rule -/
def spRule : Sp := fun vs H Q _ => ∃ (p l : Addr) (n : Int), vs = [.ref p] ∧ FeedAt H p l n ∧ n ≤ 4900 ∧
  ∀ r H', FeedAt H' p l (n + 1) → Keep p H H' → Q (.str r) H'
theorem scRule : FnScope ["_law_feed_here"] ["_law_feed_here"] (defScope sRule) := ⟨rfl, rfl, rfl, by decide +kernel, rfl, by decide +kernel, by decide +kernel⟩
theorem ok_rule {f : Addr} {fd : FuncData} (F : Fun K "_law_rule" "_law_rule" sRule f fd) (T : Blt mg) (CN : Has P w K mg base "_law_next" 1 ["_law_feed_here", "_law_many"] spNext) :
    FnOk P w K mg base CX0 2 f fd ["_law_feed_here"] spRule := by
  refine F.ok scRule (fun vs H Q E h => ?_) (fun cdv A outer s H vs Q E hr h => ?_)
  · obtain ⟨p, l, n, rfl, _⟩ := h
    rfl
  · obtain ⟨p, l, n, rfl, FA, hn, q⟩ := h
    refine ⟨_, (pss_one (ps_ret (pe_ix ix_list (pe_lst (pa_cons pe_str (pa_cons pe_str (pa_cons pe_str (pa_cons pe_str (pa_cons pe_str (pa_cons pe_str (pa_cons pe_str (pa_cons pe_str pa_nil))))))))) (pe_has CN (hr.mono (by decide)) (pa_cons (pv 0) (pa_cons pe_int pa_nil))) (fun _ _ => rfl)))), ?_⟩
    refine ⟨(by show 8 ≤ sizeLine; decide), fun a na => ?_⟩
    have h1 : (upd H a (.lst ((["first", "last", "short", "front", "lastoff", "shortoff", "frontoff", "turns"] : List Str).map V.str))) a = _ := upd_same
    have F1 := FA.new (o := .lst ((["first", "last", "short", "front", "lastoff", "shortoff", "frontoff", "turns"] : List Str).map V.str)) na
    refine ⟨_, rfl, p, l, 8, n, rfl, by omega, by omega, F1, by omega, fun d H2 d0 d1 F2 K2 => ?_⟩
    have K1 := (Keep.refl p H).mut (o := .lst ((["first", "last", "short", "front", "lastoff", "shortoff", "frontoff", "turns"] : List Str).map V.str)) na
    obtain ⟨x, -, hx⟩ := at_map (g := V.str) (l := (["first", "last", "short", "front", "lastoff", "shortoff", "frontoff", "turns"] : List Str)) d0 d1
    exact ⟨a, _, _, _, rfl, rfl, SqL.of (K2 _ _ h1 (FA.ne_new na).1.symm), hx, q _ _ F2 (K1.trans K2)⟩
/-! ### _law_house -/
def spHouse : Sp := fun vs H Q _ => ∃ (p l : Addr) (n : Int), vs = [.ref p] ∧ FeedAt H p l n ∧ n ≤ 4800 ∧
  ∀ h v H', isHs H' v h → 1 ≤ h.hands → FeedAt H' p l (n + 3) → Keep p H H' → Q v H'
theorem scHouse : FnScope ["_law_feed_here", "_law_places"] ["_law_feed_here"] (defScope sHouse) := ⟨rfl, rfl, rfl, by decide +kernel, rfl, by decide +kernel, by decide +kernel⟩
theorem ok_house {f : Addr} {fd : FuncData} (F : Fun K "_law_house" "_law_house" sHouse f fd) (T : Blt mg) (CN : Has P w K mg base "_law_next" 1 ["_law_feed_here", "_law_many"] spNext)
    (CR : Has P w K mg base "_law_rule" 2 ["_law_feed_here"] spRule) : FnOk P w K mg base CX0 3 f fd ["_law_feed_here"] spHouse := by
  refine F.ok scHouse (fun vs H Q E h => ?_) (fun cdv A outer s H vs Q E hr h => ?_)
  · obtain ⟨p, l, n, rfl, _⟩ := h
    rfl
  · obtain ⟨p, l, n, rfl, FA, hn, q⟩ := h
    have nd := scHouse.nd
    refine ⟨_, (pss_cons (ps_set (i := 1) nd rfl (Or.inl rfl) (pe_ix ix_list (pe_lst (pa_cons pe_non (pa_cons pe_non (pa_cons pe_non (pa_cons pe_int (pa_cons pe_int (pa_cons pe_int (pa_cons pe_int (pa_cons pe_int (pa_cons pe_int (pa_cons pe_int pa_nil))))))))))) (pe_has CN (hr.mono (by decide)) (pa_cons (pv 0) (pa_cons pe_int pa_nil))) (fun _ _ => rfl)))
      (pss_one (ps_ret (pe_tup (pa_cons (pe_op op_add pe_int (pe_has CN (hr.mono (by decide)) (pa_cons (pv 0) (pa_cons pe_int pa_nil)))) (pa_cons (pv 1) (pa_cons (pe_has CR (hr.mono (by decide)) (pa_cons (pv 0) pa_nil)) pa_nil))))))), ?_⟩
    refine ⟨(by show 10 ≤ sizeLine; decide), fun a na => ?_⟩
    have h1 : (upd H a (.lst (([none, none, none, some 0, some 1, some 2, some 3, some 4, some 5, some 6] : List (Option Int)).map plV))) a = _ := upd_same
    have F1 := FA.new (o := .lst (([none, none, none, some 0, some 1, some 2, some 3, some 4, some 5, some 6] : List (Option Int)).map plV)) na
    have K1 := (Keep.refl p H).mut (o := .lst (([none, none, none, some 0, some 1, some 2, some 3, some 4, some 5, some 6] : List (Option Int)).map plV)) na
    refine ⟨_, rfl, p, l, 10, n, rfl, by omega, by omega, F1, by omega, fun d H2 d0 d1 F2 K2 => ?_⟩
    obtain ⟨pl, -, hx⟩ := at_map (g := plV) (l := ([none, none, none, some 0, some 1, some 2, some 3, some 4, some 5, some 6] : List (Option Int))) d0 d1
    refine ⟨a, _, _, _, rfl, rfl, SqL.of (K2 _ _ h1 (FA.ne_new na).1.symm), hx, ?_⟩
    refine ⟨_, rfl, p, l, 3, n + 1, rfl, by omega, by omega, F2, by omega, fun e H3 e0 e1 F3 K3 => ?_⟩
    refine ⟨_, _, rfl, rfl, _, rfl, _, rfl, p, l, n + 1 + 1, rfl, F3, by omega, fun r H4 F4 K4 => ?_⟩
    refine ⟨(by show 3 ≤ sizeLine; decide), fun t nt => ?_⟩
    refine q ⟨1 + e, pl, r⟩ _ _ ⟨t, rfl, upd_same⟩ (by show 1 ≤ 1 + e; omega) ((F4.new nt).up (by omega)) (((K1.trans K2).trans (K3.trans K4)).trans (Keep.of (same_new nt)))
/-! ### _law_way -/
def goodB (Wk : Int) (b : List Com) : Prop := b.length ≤ 3 ∧ ∀ c ∈ b, 1 ≤ c.2 ∧ c.2 ≤ Wk
def spWay : Sp := fun vs H Q _ => ∃ (p l : Addr) (n B Wk : Int), vs = [.ref p, .int B, .int Wk] ∧ 0 ≤ B ∧ B ≤ 100 ∧ 1 ≤ Wk ∧ Wk ≤ 100 ∧ FeedAt H p l n ∧ n ≤ 1000 ∧
  ∀ way v H', isWay H' v way → (way.length : Int) ≤ B → (∀ b ∈ way, goodB Wk b) → FeedAt H' p l (n + 1 + 7 * B) → Keep p H H' → Q v H'
abbrev nWay : List Str := ["_law_feed_here", "_law_beats", "_law_works", "_law_way_here", "_law_many", "_law_k", "_law_beat", "_law_j"]
theorem scWay : FnScope nWay ["_law_feed_here", "_law_beats", "_law_works"] (defScope sWay) := ⟨rfl, rfl, rfl, by decide +kernel, rfl, by decide +kernel, by decide +kernel⟩
theorem ok_way {f : Addr} {fd : FuncData} (F : Fun K "_law_way" "_law_way" sWay f fd) (T : Blt mg) (CN : Has P w K mg base "_law_next" 1 ["_law_feed_here", "_law_many"] spNext) :
    FnOk P w K mg base CX0 2 f fd ["_law_feed_here", "_law_beats", "_law_works"] spWay := by
  refine F.ok scWay (fun vs H Q E h => ?_) (fun cdv A outer s H vs Q E hr h => ?_)
  · obtain ⟨p, l, n, B, Wk, rfl, _⟩ := h
    rfl
  · obtain ⟨p, l, n, B, Wk, rfl, B0, B1, W0, W1, FA, hn, q⟩ := h
    have nd := scWay.nd
    have big : (1000 : Nat) < sizeLine := by decide
    refine ⟨_, (pss_cons (ps_set (i := 3) nd rfl (Or.inl rfl) (pe_lst pa_nil))
      (pss_cons (ps_set (i := 4) nd rfl (Or.inl rfl) pe_int)
      (pss_cons (ps_for PassesOwn.never rfl (pi_range1 rfl T.range (pa_cons (pe_has CN (hr.mono (by decide)) (pa_cons (pv 0) (pa_cons (pe_op op_add (pv 1) pe_int) pa_nil))) pa_nil)) (pg_name (i := 5) nd rfl (Or.inl rfl)) (pss_cons (ps_set (i := 6) nd rfl (Or.inl rfl) (pe_lst pa_nil))
      (pss_cons (ps_for PassesOwn.never rfl (pi_range1 rfl T.range (pa_cons (pe_ix ix_list (pe_lst (pa_cons pe_int (pa_cons pe_int (pa_cons pe_int (pa_cons pe_int (pa_cons pe_int (pa_cons pe_int pa_nil))))))) (pe_has CN (hr.mono (by decide)) (pa_cons (pv 0) (pa_cons pe_int pa_nil))) (fun _ _ => rfl)) pa_nil)) (pg_name (i := 7) nd rfl (Or.inl rfl)) (pss_one (ps_if (pt_cmpR op_lt (pv 4) pe_int (nomark _)) (pss_cons (ps_expr (pe_bm PySem.F.plainAttrs_list PySem.F.slot_list_append PySem.F.type_list_append mt_append (pv 6) (pa_cons (pe_tup (pa_cons (pe_has CN (hr.mono (by decide)) (pa_cons (pv 0) (pa_cons pe_int pa_nil))) (pa_cons (pe_op op_add pe_int (pe_has CN (hr.mono (by decide)) (pa_cons (pv 0) (pa_cons (pv 2) pa_nil)))) pa_nil))) pa_nil)))
      (pss_one (ps_set (i := 4) nd rfl (Or.inl rfl) (pe_op op_add (pv 4) pe_int)))) pss_nil)))
      (pss_one (ps_expr (pe_bm PySem.F.plainAttrs_list PySem.F.slot_list_append PySem.F.type_list_append mt_append (pv 3) (pa_cons (pe_callTy call_tuple_of (by rfl) T.tuple (by decide +kernel) (pa_cons (pv 6) pa_nil)) pa_nil)))))))
      (pss_one (ps_ret (pe_callTy call_tuple_of (by rfl) T.tuple (by decide +kernel) (pa_cons (pv 3) pa_nil))))))), ?_⟩
    -- way_here = []; many = 0
    refine ⟨Nat.zero_le _, fun lw nw => ?_⟩
    have F1 := FA.new (o := .lst []) nw
    have K1 := (Keep.refl p H).mut (o := .lst []) nw
    have pw := (FA.ne_new nw).1
    have lwl := (FA.ne_new nw).2
    -- for k in range(next(feed, beats + 1))
    refine ⟨_, rfl, _, rfl, _, _, rfl, rfl, p, l, B + 1, n, rfl, by omega, by omega, F1, by omega, fun N H2 N0 N1 F2 K2 => ?_⟩
    have w2 := K2 _ _ (upd_same (a := lw)) pw.symm
    refine ⟨N, rfl, by omega, by omega, ?_⟩
    refine for_range (lo := 0) (n := N.toNat) (fun i σ H' => ∃ xs way m w5 w6 w7, σ = [some (.ref p), some (.int B), some (.int Wk), some (.ref lw), some (.int m), w5, w6, w7] ∧ Keep p H H' ∧ FeedAt H' p l (n + 1 + 7 * i) ∧
      H' lw = some (.lst xs) ∧ Paired (isBt H') xs way ∧ way.length = i ∧ ∀ b ∈ way, goodB Wk b)
      ⟨[], [], 0, none, none, none, rfl, K1.trans K2, F2.up (by omega), w2, .nil, rfl, fun b hb => by cases hb⟩ ?_ ?_
    · rintro i σ H3 hi ⟨xs, way, m, w5, w6, w7, rfl, K3, F3, hw3, pp, wl, wg⟩
      have iB : (i : Int) < B := by omega
      -- beat = []
      refine ⟨Nat.zero_le _, fun lb nb => ?_⟩
      have F4 := F3.new (o := .lst []) nb
      have K4 := (Keep.refl p H3).mut (o := .lst []) nb
      have pb := (F3.ne_new nb).1
      have wb : lw ≠ lb := ne_of_none hw3 nb
      -- the display
      refine ⟨(by show 6 ≤ sizeLine; decide), fun a na => ?_⟩
      have F5 := F4.new (o := .lst (([0, 0, 1, 1, 2, 3] : List Int).map V.int)) na
      have na3 : H3 a = none := K4.free na (F4.ne_new na).1.symm
      have K5 := K4.mut (o := .lst (([0, 0, 1, 1, 2, 3] : List Int).map V.int)) na3
      have ba : lb ≠ a := ne_of_none upd_same na
      refine ⟨_, rfl, p, l, 6, _, rfl, by omega, by omega, F5, by omega, fun d H6 d0 d1 F6 K6 => ?_⟩
      obtain ⟨y, hy, hx⟩ := at_map (g := V.int) (l := ([0, 0, 1, 1, 2, 3] : List Int)) d0 d1
      have yb : 0 ≤ y ∧ y ≤ 3 := by
        simp only [List.mem_cons, List.not_mem_nil, or_false] at hy
        omega
      have b6 : H6 lb = some (.lst []) := K6 _ _ ((upd_ne ba).trans upd_same) pb.symm
      refine ⟨a, _, _, _, rfl, rfl, SqL.of (K6 _ _ upd_same (F4.ne_new na).1.symm), hx, ?_⟩
      refine ⟨y, rfl, by omega, by omega, ?_⟩
      refine for_range (lo := 0) (n := y.toNat) (fun j σ H' => ∃ ys b m w7, σ = [some (.ref p), some (.int B), some (.int Wk), some (.ref lw), some (.int m), some (.int (0 + (i : Int))), some (.ref lb), w7] ∧ Keep p H3 H' ∧ FeedAt H' p l (n + 1 + 7 * i + 1 + 2 * j) ∧
        H' lb = some (.lst ys) ∧ Paired (isCom H') ys b ∧ b.length ≤ j ∧ ∀ c ∈ b, 1 ≤ c.2 ∧ c.2 ≤ Wk)
        ⟨[], [], m, _, rfl, K5.trans K6, F6.up (by omega), b6, .nil, by simp, fun c hc => by cases hc⟩ ?_ ?_
      · rintro j σ H7 hj ⟨ys, b, m, w7, rfl, K7, F7, hb7, pc, bl, bg⟩
        have jy : (j : Int) < y := by omega
        refine ⟨_, rfl, _, _, rfl, rfl, _, rfl, ?_⟩
        refine ite2 (fun c => ?_) (fun c => ⟨ys, b, m, _, rfl, K7, F7.up (by omega), hb7, pc, by omega, bg⟩)
        refine ⟨_, rfl, .inl ⟨rfl, _, SqL.of hb7⟩, ?_⟩
        refine ⟨_, rfl, p, l, 2, _, rfl, by omega, by omega, F7, by omega, fun r H8 r0 r1 F8 K8 => ?_⟩
        refine ⟨_, rfl, _, rfl, p, l, Wk, _, rfl, by omega, by omega, F8, by omega, fun u H9 u0 u1 F9 K9 => ?_⟩
        refine ⟨_, _, rfl, rfl, (by show 2 ≤ sizeLine; decide), fun t nt => ?_⟩
        have s10 := same_new (o := .tup [.int r, .int (1 + u)]) nt
        have hb10 := s10 _ _ ((K8.trans K9) _ _ hb7 pb.symm)
        have yl : ys.length = b.length := pc.length
        refine ⟨lb, ys, _, rfl, rfl, hb10, by omega, ?_⟩
        have t11 := tk_lst (o := .lst (ys ++ [.ref t])) hb10
        have K710 := (K8.trans K9).trans (Keep.of (p := p) s10)
        have F10 := F9.new (o := .tup [.int r, .int (1 + u)]) nt
        have lbl : l ≠ lb := (F3.ne_new nb).2
        refine ⟨_, rfl, _, _, rfl, rfl, ?_⟩
        refine ⟨ys ++ [.ref t], b ++ [(r, 1 + u)], _, _, rfl, (K7.trans K710).mut nb, (F10.mut pb lbl).up (by omega), upd_same, ?_, by rw [List.length_append]; show b.length + 1 ≤ j + 1; omega, ?_⟩
        · refine pair_app (pair_mono (fun _ _ z => isCom_up t11 (isCom_up (K710.ftk F7) z)) pc) (.cons ⟨t, rfl, ?_⟩ .nil)
          exact t11 _ _ upd_same
        · intro c hc
          rcases List.mem_append.mp hc with hc | hc
          · exact bg c hc
          · cases List.mem_singleton.mp hc
            exact ⟨by show 1 ≤ 1 + u; omega, by show 1 + u ≤ Wk; omega⟩
      · rintro σ H7 ⟨ys, b, m, w7, rfl, K7, F7, hb7, pc, bl, bg⟩
        have hw7 := K7 _ _ hw3 pw.symm
        refine ⟨_, rfl, .inl ⟨rfl, _, SqL.of hw7⟩, _, rfl, lb, _, rfl, .inl ⟨SqL.of hb7, fun t nt => ?_⟩⟩
        have s8 := same_new (o := .tup ys) nt
        have xl : xs.length = way.length := pp.length
        refine ⟨lw, xs, _, rfl, rfl, s8 _ _ hw7, by omega, ?_⟩
        have t9 := tk_lst (o := .lst (xs ++ [.ref t])) (s8 _ _ hw7)
        have F8 := F7.new (o := .tup ys) nt
        have K8 := K7.trans (Keep.of (p := p) s8)
        refine ⟨xs ++ [.ref t], way ++ [b], _, _, _, _, rfl, (K3.trans K8).mut nw, (F8.mut pw lwl).up (by omega), upd_same, ?_, by rw [List.length_append]; show way.length + 1 = i + 1; omega, ?_⟩
        · refine pair_app (pair_mono (fun _ _ z => isBt_up t9 (isBt_up (K8.ftk F3) z)) pp) (.cons ⟨t, ys, rfl, t9 _ _ upd_same, pair_mono (fun _ _ z => isCom_up t9 (isCom_up s8.tk z)) pc⟩ .nil)
        · intro c hc
          rcases List.mem_append.mp hc with hc | hc
          · exact wg c hc
          · cases List.mem_singleton.mp hc
            exact ⟨by omega, bg⟩
    · rintro σ H3 ⟨xs, way, m, w5, w6, w7, rfl, K3, F3, hw3, pp, wl, wg⟩
      refine ⟨_, rfl, lw, _, rfl, .inl ⟨SqL.of hw3, fun t nt => ?_⟩⟩
      have s4 := same_new (o := .tup xs) nt
      exact q way _ _ ⟨t, xs, rfl, upd_same, pair_mono (fun _ _ z => isBt_up s4.tk z) pp⟩ (by omega) wg ((F3.new nt).up (by omega)) (K3.trans (Keep.of s4))
/-! ### _law_light_way -/
def spLight : Sp := fun vs H Q _ => ∃ (p l : Addr) (n : Int), vs = [.ref p] ∧ FeedAt H p l n ∧ n ≤ 900 ∧
  ∀ way v H' (B Wk : Int), isWay H' v way → (way.length : Int) ≤ B → (∀ b ∈ way, goodB Wk b) → B ≤ 24 → 1 ≤ Wk → B * Wk ≤ 48 → FeedAt H' p l (n + 200) → Keep p H H' → Q v H'
theorem scLight : FnScope ["_law_feed_here", "_law_size"] ["_law_feed_here"] (defScope sLight) := ⟨rfl, rfl, rfl, by decide +kernel, rfl, by decide +kernel, by decide +kernel⟩
theorem ok_light {f : Addr} {fd : FuncData} (F : Fun K "_law_light_way" "_law_light_way" sLight f fd) (T : Blt mg) (CN : Has P w K mg base "_law_next" 1 ["_law_feed_here", "_law_many"] spNext)
    (CW : Has P w K mg base "_law_way" 2 ["_law_feed_here", "_law_beats", "_law_works"] spWay) : FnOk P w K mg base CX0 3 f fd ["_law_feed_here"] spLight := by
  refine F.ok scLight (fun vs H Q E h => ?_) (fun cdv A outer s H vs Q E hr h => ?_)
  · obtain ⟨p, l, n, rfl, _⟩ := h
    rfl
  · obtain ⟨p, l, n, rfl, FA, hn, q⟩ := h
    have nd := scLight.nd
    refine ⟨_, (pss_cons (ps_set (i := 1) nd rfl (Or.inl rfl) (pe_has CN (hr.mono (by decide)) (pa_cons (pv 0) (pa_cons pe_int pa_nil))))
      (pss_one (ps_ret (pe_has CW (hr.mono (by decide)) (pa_cons (pv 0) (pa_cons (pe_ix ix_list (pe_lst (pa_cons pe_int (pa_cons pe_int (pa_cons pe_int pa_nil)))) (pv 1) (fun _ _ => rfl)) (pa_cons (pe_ix ix_list (pe_lst (pa_cons pe_int (pa_cons pe_int (pa_cons pe_int pa_nil)))) (pv 1) (fun _ _ => rfl)) pa_nil))))))), ?_⟩
    refine ⟨_, rfl, p, l, 3, n, rfl, by omega, by omega, FA, by omega, fun d H1 d0 d1 F1 K1 => ?_⟩
    refine ⟨_, rfl, (by show 3 ≤ sizeLine; decide), fun a na => ?_⟩
    have F2 := F1.new (o := .lst [.int 5, .int 9, .int 24]) na
    have K2 := (Keep.refl p H1).mut (o := .lst [.int 5, .int 9, .int 24]) na
    have hd : d = 0 ∨ d = 1 ∨ d = 2 := by omega
    obtain ⟨B, Wk, e1, e2, hB, hB', hW, hW', hm⟩ : ∃ B Wk, atI [V.int 5, V.int 9, V.int 24] d = some (.int B) ∧ atI [V.int 6, V.int 4, V.int 2] d = some (.int Wk) ∧ 0 ≤ B ∧ B ≤ 24 ∧ 1 ≤ Wk ∧ Wk ≤ 6 ∧ B * Wk ≤ 48 := by
      rcases hd with rfl | rfl | rfl
      · exact ⟨5, 6, rfl, rfl, by decide, by decide, by decide, by decide, by decide⟩
      · exact ⟨9, 4, rfl, rfl, by decide, by decide, by decide, by decide, by decide⟩
      · exact ⟨24, 2, rfl, rfl, by decide, by decide, by decide, by decide, by decide⟩
    refine ⟨_, rfl, a, _, _, _, rfl, rfl, SqL.of upd_same, e1, (by show 3 ≤ sizeLine; decide), fun c nc => ?_⟩
    have F3 := F2.new (o := .lst [.int 6, .int 4, .int 2]) nc
    have K3 := K2.trans (Keep.of (p := p) (same_new (o := .lst [.int 6, .int 4, .int 2]) nc))
    refine ⟨_, rfl, c, _, _, _, rfl, rfl, SqL.of upd_same, e2, ?_⟩
    refine ⟨p, l, n + 1, B, Wk, rfl, hB, by omega, hW, by omega, F3, by omega, fun way v H4 hw wl wg F4 K4 => ?_⟩
    exact q way v H4 B Wk hw wl wg hB' hW hm (F4.up (by omega)) ((K1.trans K3).trans K4)
end
end Hw

/-! Plain facts for the law's last two defs. -/
namespace Hw
open PySem HwB L2
theorem sum_range (f : Nat → Int) : ∀ n, ((List.range n).map f).sum = sumTo f n
  | 0 => rfl
  | n + 1 => by
    rw [List.range_succ, List.map_append, List.sum_append, sum_range f n]
    show sumTo f n + (f n + 0) = sumTo f n + f n
    omega
theorem take_range (f : Nat → Int) {n e : Nat} (h : e ≤ n) : ((List.range n).map f).take e = (List.range e).map f := by
  rw [← List.map_take, List.take_range, Nat.min_eq_left h]
theorem sum_slice (f : Nat → Int) {n b e : Nat} (hb : b ≤ e) (he : e ≤ n) : ((((List.range n).map f).drop b).take (e - b)).sum = sumBet f b e := by
  have a : ((List.range n).map f).take (b + (e - b)) = ((List.range n).map f).take b ++ (((List.range n).map f).drop b).take (e - b) := List.take_add
  rw [show b + (e - b) = e by omega, take_range f he, take_range f (by omega)] at a
  have s := congrArg List.sum a
  rw [List.sum_append, sum_range, sum_range] at s
  unfold sumBet
  omega
theorem cut_between (xs : List V) {b e : Nat} (h : b ≤ e) (he : e ≤ xs.length) : cutV xs (some (b : Int)) (some (e : Int)) = (xs.drop b).take (e - b) := by
  unfold cutV
  rw [HT.sIx_nat xs.length 0 b, HT.sIx_nat xs.length xs.length e, Nat.min_eq_left he, Nat.min_eq_left (by omega)]
theorem nUn_eq {h : Hs} {w : Nat → List Com} (h0 : 0 ≤ h.hands) (k : Nat) : (if nIn h w k - h.hands > 0 then nIn h w k - h.hands else 0) = nUn h w k := by
  have p := pk_len h (Ins h w k)
  unfold nUn nIn
  split <;> omega
theorem nIn_bound {h : Hs} {way : List (List Com)} (hW : WOk way) (k : Nat) : 0 ≤ nIn h (W way) k ∧ nIn h (W way) k ≤ 2000 := by
  have a := Ins_len h (W way) k
  have b := hW.many (k + 1)
  unfold nIn
  omega
theorem nUn_bound {h : Hs} {way : List (List Com)} (hW : WOk way) (k : Nat) : 0 ≤ nUn h (W way) k ∧ nUn h (W way) k ≤ 2000 := by
  have a := nIn_bound (h := h) hW k
  have b := pk_le h (Ins h (W way) k)
  unfold nUn
  unfold nIn at a
  omega
theorem sumTo_bound {f : Nat → Int} (hf : ∀ k, 0 ≤ f k ∧ f k ≤ 2000) : ∀ n, 0 ≤ sumTo f n ∧ sumTo f n ≤ 2000 * n
  | 0 => ⟨Int.le_refl _, Int.le_refl _⟩
  | n + 1 => by
    have ih := sumTo_bound hf n
    have := hf n
    show 0 ≤ sumTo f n + f n ∧ sumTo f n + f n ≤ _
    omega
theorem sumBet_bound {f : Nat → Int} (hf : ∀ k, 0 ≤ f k ∧ f k ≤ 2000) {n b e : Nat} (hn : n ≤ 2000) (he : e ≤ n) (hb : b ≤ n) : (sumBet f b e).natAbs < 2 ^ 64 := by
  have a := sumTo_bound hf e
  have c := sumTo_bound hf b
  unfold sumBet
  omega
/-! ### the text of four numbers -/
def four (a b c d : Int) : PyData := .tuple [.int a, .int b, .int c, .int d]
theorem log_small {a : Int} (h : a.natAbs < 2 ^ 64) : a.natAbs.log2 < 64 := by
  by_cases h0 : a.natAbs = 0
  · rw [h0]
    decide
  · exact (Nat.log2_lt h0).mpr h
theorem text_small {a : Int} (h : a.natAbs < 2 ^ 64) : (PyData.int a).shown.length ≤ 65 := by
  rw [PyData.shown]
  show (Str.ofString (toString a)).length ≤ 65
  rw [PySem.ofString_length]
  exact int_text_length_le (by decide) (log_small h)
theorem four_ok {a b c d : Int} (ha : a.natAbs < 2 ^ 64) (hb : b.natAbs < 2 ^ 64) (hc : c.natAbs < 2 ^ 64) (hd : d.natAbs < 2 ^ 64) :
    (four a b c d).showable = true ∧ (four a b c d).hasDict = false ∧ (four a b c d).depth ≤ 10 ∧ (four a b c d).shown.length ≤ sizeLine := by
  have l : ∀ {x : Int}, x.natAbs < 2 ^ 64 → x.natAbs.log2 < 1920 := fun h => Nat.lt_trans (log_small h) (by decide)
  refine ⟨?_, by simp [four, PyData.hasDict, PyData.hasDictAll], by simp [four, PyData.depth, PyData.depthAll], ?_⟩
  · simp [four, PyData.showable, PyData.showableAll, l ha, l hb, l hc, l hd]
  · have e : (four a b c d).shown = ("(" : Str) ++ ((PyData.int a).shown ++ ", " ++ ((PyData.int b).shown ++ ", " ++ ((PyData.int c).shown ++ ", " ++ (PyData.int d).shown))) ++ (")" : String) := by
      unfold four
      simp only [PyData.shown, PyData.shownAll]
      rfl
    have ta := text_small ha
    have tb := text_small hb
    have tc := text_small hc
    have td := text_small hd
    have c1 : (("(" : String) : Str).length = 1 := by decide
    have c2 : ((", " : String) : Str).length = 2 := by decide
    have c3 : ((")" : String) : Str).length = 1 := by decide
    rw [e]
    simp only [PySem.Str.length_append]
    rw [PySem.sizeLine_eq]
    show _ ≤ _
    simp only [c1, c2, c3]
    omega
theorem four_dp {K : PySem.W.Frag} {H : Hp} {p : Addr} {a b c d : Int} (h : H p = some (.tup [.int a, .int b, .int c, .int d])) : Dp K H (.ref p) (four a b c d) :=
  .tup (SqT.of h) (.cons (.int _) (.cons (.int _) (.cons (.int _) (.cons (.int _) .nil))))
end Hw

/-! _law_both_right. -/
namespace Hw
open PySem HwB L2
/-! ### calls of a def that wants no guard -/
structure HasG (P : Program) (w : World) (K : PySem.W.Frag) (mg : Str → Option Value) (base : Heap) (x : Str) (k : Nat) (ps : List Str) (sp : Sp) : Prop where
  ex : ∃ f fd, HwD.FnG P w K mg base k f fd ps sp ∧ mg x = some (.ref f) ∧ PySem.W.keepIn K (.ref f) = true ∧ Binds K fd ps []
theorem pe_hasG {X : Cx} {x : Str} {k : Nat} {ps : List Str} {sp : Sp} {p pos : Pos} {e : Expr} {es : List Expr} {t : TA} (C : HasG X.prog X.w X.K X.mg X.base x k ps sp) (hG : X.A.guards = some []) (hr : Room k X.A) (ha : PA X (e :: es) t) (hg : Gl X x := by rfl)
    (hdb : (x == ("__debug__" : Str)) = false := by decide) (he : starEach (e :: es) X.env = (false, eval e X.env) :: starEach es X.env := by rfl) (hpl : (backTo pos (starEach es X.env)).any (·.1) = false := by rfl) :
    PE X (.Call (.Name x p) (e :: es) [] pos) (tCall sp [] E0 t) := by
  obtain ⟨f, fd, F, hm, hk, hb⟩ := C.ex
  exact HwD.pe_callG F hG hr hg hm hk hb ha hdb he hpl
section
variable {P : Program} {w : World} {K : PySem.W.Frag} {mg : Str → Option Value} {base : Heap}
theorem filt_snoc {R : List Row} {p : Row → Bool} {k : Nat} {r : Row} (h : R[k]? = some r) : (R.take (k + 1)).filter p = (R.take k).filter p ++ (if p r = true then [r] else []) := by
  rw [take_snoc h, List.filter_append, List.filter_cons, List.filter_nil]
/-- what is told as gone -/
theorem gone_crs {b e : Nat} {r : Row} (h : isG b e r = true) : ∃ rb rw_ m, r = ⟨rb, true, rw_, some m⟩ := by
  obtain ⟨rb, re, rw_, rg⟩ := r
  cases re with
  | false => cases h
  | true =>
    cases rg with
    | none => cases h
    | some m => exact ⟨rb, rw_, m, rfl⟩
def spBoth : Sp := fun vs H Q _ => ∃ (h : Hs) (way : List (List Com)) (vh vw : V) (at_ ac : Addr) (cxs : List V) (b e : Nat) (q : Bool), vs = [vh, vw, .ref at_, .ref ac, .int (b : Int), .int (e : Int), .bl q] ∧
  isHs H vh h ∧ isWay H vw way ∧ 0 ≤ h.hands ∧ WOk way ∧ H at_ = some (.lst cxs) ∧ Paired (isCrs H) cxs (fo h (W way) way.length).rows ∧ H ac = some (.lst (((List.range way.length).map (nIn h (W way))).map V.int)) ∧
  b ≤ e ∧ e ≤ way.length ∧ S h (W way) b = [] ∧ S h (W way) e = [] ∧ ∀ H', Same H H' → Q (.bl true) H'
abbrev nBoth : List Str := ["_law_house_here", "_law_way_here", "_law_told", "_law_counts", "_law_begin", "_law_end", "_law_is_asked", "_law_some", "_law_stays", "_law_waits", "_law_present", "_law_unpicked", "_law_due", "_law_course", "_law_many"]
theorem scBoth : FnScope nBoth ["_law_house_here", "_law_way_here", "_law_told", "_law_counts", "_law_begin", "_law_end", "_law_is_asked"] (defScope sBoth) := ⟨rfl, rfl, rfl, by decide +kernel, rfl, by decide +kernel, by decide +kernel⟩
theorem ok_both {f : Addr} {fd : FuncData} (F : Fun K "_law_both_right" "_law_both_right" sBoth f fd) (T : Blt mg) (CS : Has P w K mg base "sums" 6 ["house", "way", "begin", "end"] spSums) :
    HwD.FnG P w K mg base 7 f fd ["_law_house_here", "_law_way_here", "_law_told", "_law_counts", "_law_begin", "_law_end", "_law_is_asked"] spBoth := by
  refine HwD.okG F scBoth (fun vs H Q h => ?_) (fun cdv A outer s H vs Q hg hr h => ?_)
  · obtain ⟨h, way, vh, vw, at_, ac, cxs, b, e, q, rfl, _⟩ := h
    rfl
  · obtain ⟨h, way, vh, vw, at_, ac, cxs, b, e, ask, rfl, hh, hw, h0, hW, hat, pc, hac, hbe, hen, eb, ee, q⟩ := h
    have nd := scBoth.nd
    refine ⟨_, (pss_cons (ps_setLc (i := 7) (own := [("_law_course", 13)]) (g := (gName 13)) rfl nd rfl rfl (sw_true rfl rfl rfl (by decide +kernel)) (pi_list (pv 2)) (blkOk_by (N := nBoth) (sc := defScope sBoth) (by decide +kernel)) (fun _ _ _ _ _ => (pg_name (i := 13) nd rfl (Or.inl rfl))) (fun _ _ _ _ _ => (pts_one (pt_join (PW.pt (pw_and (pt_cmpR op_eq (pe_ix (show IxR _ (rIxT K) from ix_tup) (pv 13) pe_int (fun _ _ => rfl)) pe_str (nomark _)) (pw_and1 (pt_chain op_le op_lt (pv 4) (pe_ix (show IxR _ (rIxT K) from ix_tup) (pv 13) pe_int (fun _ _ => rfl)) (pv 5)))))))) (fun _ _ _ _ _ => (pv 13)))
      (pss_cons (ps_set (i := 8) nd rfl (Or.inl rfl) (pe_callB (cr_sum rfl) (by rfl) T.sum (by decide +kernel) (pa_cons (pe_lc (own := [("_law_course", 13)]) (g := (gName 13)) (tt := tYes) rfl nd (pi_list (pv 7)) (blkOk_by (N := nBoth) (sc := defScope sBoth) (by decide +kernel)) (fun _ _ _ _ _ => (pg_name (i := 13) nd rfl (Or.inl rfl))) (fun _ _ _ _ _ => pts_nil) (fun _ _ _ _ _ => (pe_op op_sub (pe_ix (show IxR _ (rIxT K) from ix_tup) (pv 13) pe_int (fun _ _ => rfl)) (pe_ix (show IxR _ (rIxT K) from ix_tup) (pv 13) pe_int (fun _ _ => rfl))))) pa_nil)))
      (pss_cons (ps_set (i := 9) nd rfl (Or.inl rfl) (pe_callB (cr_sum rfl) (by rfl) T.sum (by decide +kernel) (pa_cons (pe_lc (own := [("_law_course", 13)]) (g := (gName 13)) (tt := tYes) rfl nd (pi_list (pv 7)) (blkOk_by (N := nBoth) (sc := defScope sBoth) (by decide +kernel)) (fun _ _ _ _ _ => (pg_name (i := 13) nd rfl (Or.inl rfl))) (fun _ _ _ _ _ => pts_nil) (fun _ _ _ _ _ => (pe_ix (show IxR _ (rIxT K) from ix_tup) (pv 13) pe_int (fun _ _ => rfl)))) pa_nil)))
      (pss_cons (ps_set (i := 10) nd rfl (Or.inl rfl) (pe_callB (cr_sum rfl) (by rfl) T.sum (by decide +kernel) (pa_cons (pe_slice sl_list (pv 3) (po_some (pv 4)) (po_some (pv 5))) pa_nil)))
      (pss_cons (ps_set (i := 11) nd rfl (Or.inl rfl) (pe_callB (cr_sum rfl) (by rfl) T.sum (by decide +kernel) (pa_cons (pe_lc (own := [("_law_many", 14)]) (g := (gName 14)) (tt := tYes) rfl nd (pi_list (pe_slice sl_list (pv 3) (po_some (pv 4)) (po_some (pv 5)))) (blkOk_by (N := nBoth) (sc := defScope sBoth) (by decide +kernel)) (fun _ _ _ _ _ => (pg_name (i := 14) nd rfl (Or.inl rfl))) (fun _ _ _ _ _ => pts_nil) (fun _ _ _ _ _ => (pe_callB (call_max2 rfl) (by rfl) T.max (by decide +kernel) (pa_cons pe_int (pa_cons (pe_op op_sub (pv 14) (pe_ix (show IxR _ (rIxT K) from ix_tup) (pv 0) pe_int (fun _ _ => rfl))) pa_nil))))) pa_nil)))
      (pss_cons (ps_if (pt_join (PW.pt (pw_or (pt_cmpR op_ne (pv 8) (pv 10) (nomark _)) (pw_or1 (pt_cmpR op_ne (pv 9) (pv 11) (nomark _)))))) (pss_one (ps_ret pe_bl)) pss_nil)
      (pss_cons (ps_set (i := 12) nd rfl (Or.inl rfl) (pe_callB (cr_repr hg hr.units) (by rfl) T.repr (by decide +kernel) (pa_cons (pe_tup (pa_cons (pv 8) (pa_cons (pv 10) (pa_cons (pv 9) (pa_cons (pv 11) pa_nil))))) pa_nil)))
      (pss_one (ps_ret (pe_or (pe_not (pv 6)) (pe_one (pe_cmpR op_eq (pe_callB (cr_repr hg hr.units) (by rfl) T.repr (by decide +kernel) (pa_cons (pe_has CS (hr.mono (by decide)) (pa_cons (pv 0) (pa_cons (pv 1) (pa_cons (pv 4) (pa_cons (pv 5) pa_nil))))) pa_nil)) (pv 12) (nomark _))))))))))))), ?_⟩
    have wlen := hW.len
    have s24 : (16777216 : Nat) ≤ sizeLine := by decide
    have fr := fo_rows h (W way) way.length
    have ml := hW.many way.length
    obtain ⟨f1, f2, -⟩ := sums_between h (W way) eb ee hbe hen
    generalize hR : (fo h (W way) way.length).rows = R at pc fr f1 f2
    have cl : cxs.length = R.length := pc.length
    -- some = [..]
    refine ⟨_, rfl, at_, rfl, ⟨_, SqL.of hat⟩, fun D hD => ?_⟩
    refine lc_list (K := K) (a := at_) (xs := cxs) (fun k H' => ∃ xs, Same H H' ∧ H' D = some (.lst xs) ∧ Paired (isCrs H') xs ((R.take k).filter (isG b e)))
      ⟨[], same_new hD, upd_same, .nil⟩ (fun k H' _ ⟨_, sm, _⟩ => SqL.of (sm _ _ hat)) ?_ ?_
    · rintro k y H3 hi ⟨xs, sm, hx, px⟩
      obtain ⟨r, hr', ar, rfl, har⟩ := pair_get pc hi
      have har3 := sm _ _ har
      rw [filt_snoc hr']
      refine ⟨rfl, isG b e r, fun H4 => H4 = H3, ?_, ?_⟩
      · obtain ⟨rb, re, rw_, rg⟩ := r
        cases re with
        | false =>
          refine ⟨_, rfl, ar, _, _, _, rfl, rfl, SqT.of har3, atI_nat (j := 0) rfl, rfl, _, rfl, ?_⟩
          exact ite2 (fun c => absurd (V.str.inj (of_decide_eq_true c) : ("lost" : Str) = "gone") (by decide +kernel)) (fun _ => ⟨rfl, rfl⟩)
        | true =>
          cases rg with
          | none =>
            refine ⟨_, rfl, ar, _, _, _, rfl, rfl, SqT.of har3, atI_nat (j := 0) rfl, rfl, _, rfl, ?_⟩
            exact ite2 (fun c => absurd (V.str.inj (of_decide_eq_true c) : ("in" : Str) = "gone") (by decide +kernel)) (fun _ => ⟨rfl, rfl⟩)
          | some m =>
            refine ⟨_, rfl, ar, _, _, _, rfl, rfl, SqT.of har3, atI_nat (j := 0) rfl, rfl, _, rfl, ?_⟩
            refine ite2 (fun _ => ?_) (fun c => absurd (decide_eq_true rfl) c)
            refine ⟨_, rfl, _, rfl, ar, _, _, _, rfl, rfl, SqT.of har3, atI_nat (j := 1) rfl, _, _, rfl, rfl, _, rfl, ?_⟩
            have eg : isG b e ⟨rb, true, rw_, some m⟩ = (decide ((b : Int) ≤ (rb : Int)) && decide ((rb : Int) < (e : Int))) := by
              show (true && true && (decide (b ≤ rb) && decide (rb < e))) = _
              rw [Bool.and_self, Bool.true_and]
              congr 1 <;> exact decide_eq_decide.mpr (by omega)
            rw [eg]
            refine ite2 (fun c => ?_) (fun c => ?_)
            · refine ⟨_, rfl, _, _, rfl, rfl, _, rfl, ?_, rfl⟩
              rw [c, Bool.true_and]
            · refine ⟨_, rfl, ?_, rfl⟩
              rw [(Bool.not_eq_true _).mp c, Bool.false_and]
      rintro H4 rfl
      refine ite2 (fun c => ?_) (fun c => ?_)
      · have xl : xs.length ≤ k := by
          rw [px.length]
          exact Nat.le_trans (List.length_filter_le _ _) (by rw [List.length_take]; omega)
        have kl : k < R.length := (List.getElem?_eq_some_iff.mp hr').1
        have t5 := tk_lst (o := .lst (xs ++ [.ref ar])) hx
        refine ⟨_, rfl, xs, hx, by omega, xs ++ [.ref ar], same_mut sm hD, upd_same, ?_⟩
        rw [if_pos c]
        exact pair_app (pair_mono (fun _ _ z => isCrs_up t5 z) px) (.cons ⟨ar, rfl, t5 _ _ har3⟩ .nil)
      · refine ⟨xs, sm, hx, ?_⟩
        rw [if_neg c, List.append_nil]
        exact px
    rintro H1 ⟨xs, s1, hx, px⟩
    rw [cl, List.take_length] at px
    have gs : ∀ r ∈ R.filter (isG b e), isG b e r = true := fun r hr => (List.mem_filter.mp hr).2
    have eSt : ((R.filter (isG b e)).map life).sum = staysIn R b e := rfl
    have eWt : ((R.filter (isG b e)).map fun r => (r.wts : Int)).sum = waitsIn R b e := rfl
    have gl : (R.filter (isG b e)).length ≤ R.length := List.length_filter_le _ _
    generalize R.filter (isG b e) = G at px gs eSt eWt gl
    have xl : xs.length = G.length := px.length
    -- stays = sum([..])
    refine ⟨_, rfl, D, rfl, ⟨_, SqL.of hx⟩, fun D2 hD2 => ?_⟩
    refine lc_list (K := K) (a := D) (xs := xs) (fun k H' => Same H1 H' ∧ H' D2 = some (.lst (((G.take k).map life).map V.int)))
      ⟨same_new hD2, upd_same⟩ (fun k H' _ ⟨sm, _⟩ => SqL.of (sm _ _ hx)) ?_ ?_
    · rintro k y H3 hi ⟨sm, h2⟩
      obtain ⟨r, hr', ar, rfl, har⟩ := pair_get px hi
      have har3 := sm _ _ har
      obtain ⟨rb, rw_, m, rfl⟩ := gone_crs (gs r (List.mem_of_getElem? hr'))
      have kl : k < G.length := (List.getElem?_eq_some_iff.mp hr').1
      refine ⟨rfl, ?_⟩
      refine ⟨_, rfl, ar, _, _, _, rfl, rfl, SqT.of har3, atI_nat (j := 2) rfl, _, rfl, ar, _, _, _, rfl, rfl, SqT.of har3, atI_nat (j := 1) rfl, _, _, rfl, rfl, ?_⟩
      refine ⟨_, h2, by rw [List.length_map, List.length_map, List.length_take]; omega, same_mut sm hD2, ?_⟩
      rw [upd_same, take_snoc hr', List.map_append, List.map_append]
      rfl
    rintro H2 ⟨s2, h2⟩
    rw [xl, List.take_length] at h2
    refine ⟨D2, _, rfl, SqL.of h2, ?_⟩
    rw [eSt]
    have hx2 := s2 _ _ hx
    have px2 := pair_mono (fun _ _ z => isCrs_up s2.tk z) px
    have s02 := s1.trans s2
    clear s2 px hx h2 hD2 s1
    -- waits = sum([..])
    refine ⟨_, rfl, D, rfl, ⟨_, SqL.of hx2⟩, fun D3 hD3 => ?_⟩
    refine lc_list (K := K) (a := D) (xs := xs) (fun k H' => Same H2 H' ∧ H' D3 = some (.lst (((G.take k).map fun r => (r.wts : Int)).map V.int)))
      ⟨same_new hD3, upd_same⟩ (fun k H' _ ⟨sm, _⟩ => SqL.of (sm _ _ hx2)) ?_ ?_
    · rintro k y H3 hi ⟨sm, h2⟩
      obtain ⟨r, hr', ar, rfl, har⟩ := pair_get px2 hi
      have har3 := sm _ _ har
      obtain ⟨rb, rw_, m, rfl⟩ := gone_crs (gs r (List.mem_of_getElem? hr'))
      have kl : k < G.length := (List.getElem?_eq_some_iff.mp hr').1
      refine ⟨rfl, ?_⟩
      refine ⟨_, rfl, ar, _, _, _, rfl, rfl, SqT.of har3, atI_nat (j := 3) rfl, ?_⟩
      refine ⟨_, h2, by rw [List.length_map, List.length_map, List.length_take]; omega, same_mut sm hD3, ?_⟩
      rw [upd_same, take_snoc hr', List.map_append, List.map_append]
      rfl
    rintro H3 ⟨s3, h3⟩
    rw [xl, List.take_length] at h3
    refine ⟨D3, _, rfl, SqL.of h3, ?_⟩
    rw [eWt]
    have s03 := s02.trans s3
    clear s3 px2 hx2 h3 hD3 s02
    -- present = sum(counts[begin:end])
    have hc3 := s03 _ _ hac
    have ecut : ∀ g : Int → Int, cutV (((List.range way.length).map (nIn h (W way))).map V.int) (some (b : Int)) (some (e : Int)) = ((((List.range way.length).map (nIn h (W way))).drop b).take (e - b)).map V.int := fun _ => by
      rw [cut_between _ hbe (by rw [List.length_map, List.length_map, List.length_range]; exact hen), ← List.map_drop, ← List.map_take]
    have ecut := ecut id
    have cutl : ((((List.range way.length).map (nIn h (W way))).drop b).take (e - b)).length ≤ way.length := by
      rw [List.length_take, List.length_drop, List.length_map, List.length_range]
      omega
    have sIn := sum_slice (nIn h (W way)) hbe hen
    have sUn : (((((List.range way.length).map (nIn h (W way))).drop b).take (e - b)).map fun z => if z - h.hands > 0 then z - h.hands else 0).sum = sumBet (nUn h (W way)) b e := by
      rw [← sum_slice (nUn h (W way)) hbe hen, List.map_take, List.map_drop, List.map_map]
      congr 4
      funext k
      exact nUn_eq h0 k
    generalize (((List.range way.length).map (nIn h (W way))).drop b).take (e - b) = Z at ecut cutl sIn sUn
    refine ⟨_, rfl, _, rfl, _, rfl, _, rfl, _, rfl, ac, _, rfl, SqL.of hc3, fun p4 n4 => ?_⟩
    rw [ecut]
    refine ⟨p4, _, rfl, SqL.of upd_same, ?_⟩
    rw [sIn]
    have s04 := s03.trans (same_new (o := .lst (Z.map V.int)) n4)
    generalize hH4 : upd H3 p4 (.lst (Z.map V.int)) = H4 at s04
    clear s03 hc3
    -- unpicked = sum([..])
    have hc4 := s04 _ _ hac
    obtain ⟨ah, rfl, hah⟩ := id hh
    refine ⟨_, rfl, _, rfl, _, rfl, _, rfl, _, rfl, ac, _, rfl, SqL.of hc4, fun p5 n5 => ?_⟩
    rw [ecut]
    have s5 := same_new (o := .lst (Z.map V.int)) n5
    have h5 : (upd H4 p5 (.lst (Z.map V.int))) p5 = some (.lst (Z.map V.int)) := upd_same
    generalize upd H4 p5 (.lst (Z.map V.int)) = H5 at s5 h5
    refine ⟨p5, rfl, ⟨_, SqL.of h5⟩, fun D6 hD6 => ?_⟩
    refine lc_list (K := K) (a := p5) (xs := Z.map V.int) (fun k H' => Same H5 H' ∧ H' D6 = some (.lst (((Z.take k).map fun z => if z - h.hands > 0 then z - h.hands else 0).map V.int)))
      ⟨same_new hD6, upd_same⟩ (fun k H' _ ⟨sm, _⟩ => SqL.of (sm _ _ h5)) ?_ ?_
    · rintro k y H6 hi ⟨sm, h6⟩
      rw [List.getElem?_map] at hi
      obtain ⟨z, hz, rfl⟩ := Option.map_eq_some_iff.mp hi
      have kl : k < Z.length := (List.getElem?_eq_some_iff.mp hz).1
      refine ⟨rfl, ?_⟩
      refine ⟨_, rfl, _, rfl, ah, _, _, _, rfl, rfl, SqT.of (((s04.trans s5).trans sm) _ _ hah), atI_nat (j := 0) rfl, _, _, rfl, rfl, _, _, rfl, ?_⟩
      refine ⟨_, h6, by rw [List.length_map, List.length_map, List.length_take]; omega, same_mut sm hD6, ?_⟩
      rw [upd_same, take_snoc hz, List.map_append, List.map_append]
      rfl
    rintro H6 ⟨s6, h6⟩
    rw [List.length_map, List.take_length] at h6
    refine ⟨D6, _, rfl, SqL.of h6, ?_⟩
    rw [sUn]
    have s06 := (s04.trans s5).trans s6
    have g1 : staysIn R b e = sumBet (nIn h (W way)) b e := f1
    have g2 : waitsIn R b e = sumBet (nUn h (W way)) b e := f2
    have b1 := sumBet_bound (nIn_bound (h := h) hW) wlen hen (b := b) (by omega)
    have b2 := sumBet_bound (nUn_bound (h := h) hW) wlen hen (b := b) (by omega)
    rw [g1, g2]
    -- if stays != present or waits != unpicked
    refine ⟨false, fun H7 => H7 = H6, ?_, ?_⟩
    · refine ⟨_, rfl, _, rfl, rfl, _, rfl, ?_⟩
      refine ite2 (fun c => absurd c (by simp)) (fun _ => ?_)
      refine ⟨_, rfl, _, rfl, rfl, _, rfl, ?_, rfl⟩
      simp
    rintro H7 rfl
    -- due = repr(..)
    refine ⟨_, rfl, _, rfl, _, rfl, _, rfl, (by show 4 ≤ sizeLine; decide), fun p8 n8 => ?_⟩
    obtain ⟨o1, o2, o3, o4⟩ := four_ok b1 b1 b2 b2
    refine ⟨p8, four (sumBet (nIn h (W way)) b e) (sumBet (nIn h (W way)) b e) (sumBet (nUn h (W way)) b e) (sumBet (nUn h (W way)) b e), rfl, four_dp upd_same, o1, o2, o3, o4, ?_⟩
    have s08 := s06.trans (same_new (o := .tup [.int (sumBet (nIn h (W way)) b e), .int (sumBet (nIn h (W way)) b e), .int (sumBet (nUn h (W way)) b e), .int (sumBet (nUn h (W way)) b e)]) n8)
    -- return not asked or ..
    refine ⟨_, rfl, ask, rfl, _, rfl, ?_⟩
    refine ite2 (fun _ => q _ s08) (fun _ => ?_)
    refine ⟨_, rfl, _, rfl, _, rfl, _, rfl, ?_⟩
    refine ⟨h, way, _, _, b, e, rfl, isHs_up s08.tk hh, isWay_up s08.tk hw, h0, hW, hbe, hen, fun v9 H9 s9 hv9 => ?_⟩
    rw [hR, g1, g2] at hv9
    obtain ⟨p9, rfl, hp9⟩ := hv9
    refine ⟨p9, four (sumBet (nIn h (W way)) b e) (sumBet (nIn h (W way)) b e) (sumBet (nUn h (W way)) b e) (sumBet (nUn h (W way)) b e), rfl, four_dp hp9, o1, o2, o3, o4, ?_⟩
    refine ⟨_, rfl, rfl, ?_⟩
    rw [decide_eq_true rfl]
    exact q _ (s08.trans s9)
end
end Hw

/-! Plain facts for the law: the ways that it builds, the ways with void beats behind. -/
namespace Hw
open PySem HwB L2
theorem W_in (way : List (List Com)) (k : Nat) : (way.length ≤ k ∧ W way k = []) ∨ (k < way.length ∧ W way k ∈ way) := by
  by_cases h : k < way.length
  · right
    refine ⟨h, ?_⟩
    rw [W_get (List.getElem?_eq_getElem h)]
    exact List.getElem_mem h
  · left
    exact ⟨by omega, W_out (by omega)⟩
theorem many_good {way : List (List Com)} {Wk : Int} (g : ∀ b ∈ way, goodB Wk b) : ∀ t, manyTo (W way) t ≤ 3 * min t way.length
  | 0 => Nat.zero_le _
  | t + 1 => by
    have ih := many_good g t
    show manyTo (W way) t + (W way t).length ≤ _
    rcases W_in way t with ⟨h1, h2⟩ | ⟨h1, h2⟩
    · rw [h2, List.length_nil]
      omega
    · have := (g _ h2).1
      omega
theorem wkB_good {Wk : Int} : ∀ {b : List Com}, (∀ c ∈ b, 1 ≤ c.2 ∧ c.2 ≤ Wk) → wkB b ≤ Wk.toNat * b.length
  | [], _ => Nat.zero_le _
  | c :: b, h => by
    have ih := wkB_good (b := b) fun x hx => h x (List.mem_cons_of_mem _ hx)
    have hc := h c List.mem_cons_self
    show c.2.toNat + wkB b ≤ Wk.toNat * (b.length + 1)
    rw [Nat.mul_add, Nat.mul_one]
    omega
theorem work_good {way : List (List Com)} {Wk : Int} (g : ∀ b ∈ way, goodB Wk b) : ∀ t, workTo (W way) t ≤ 3 * Wk.toNat * min t way.length
  | 0 => Nat.zero_le _
  | t + 1 => by
    have ih := work_good g t
    show workTo (W way) t + wkB (W way t) ≤ _
    rcases W_in way t with ⟨h1, h2⟩ | ⟨h1, h2⟩
    · rw [h2, show min (t + 1) way.length = min t way.length by omega]
      exact ih
    · obtain ⟨g1, g2⟩ := g _ h2
      have a := wkB_good g2
      have b : Wk.toNat * (W way t).length ≤ Wk.toNat * 3 := Nat.mul_le_mul_left _ g1
      rw [show min (t + 1) way.length = min t way.length + 1 by omega, Nat.mul_add, Nat.mul_one]
      omega
theorem way_good {way : List (List Com)} {B Wk : Int} (wl : (way.length : Int) ≤ B) (g : ∀ b ∈ way, goodB Wk b) (hB : B ≤ 24) (hW : 1 ≤ Wk) (hm : B * Wk ≤ 48) :
    WOk way ∧ (∀ k, ∀ c ∈ W way k, 1 ≤ c.2) ∧ ∀ t, workTo (W way) t ≤ 900 := by
  refine ⟨⟨by omega, fun t => ?_⟩, fun k c hc => ?_, fun t => ?_⟩
  · have := many_good g t
    omega
  · rcases W_in way k with ⟨h1, h2⟩ | ⟨h1, h2⟩
    · rw [h2] at hc
      cases hc
    · exact ((g _ h2).2 c hc).1
  · have a := work_good g t
    have b : Wk.toNat * min t way.length ≤ Wk.toNat * B.toNat := Nat.mul_le_mul_left _ (by omega)
    have c : (Wk.toNat * B.toNat : Nat) ≤ 48 := by
      have e : ((Wk.toNat * B.toNat : Nat) : Int) = Wk * B := by
        rw [Int.natCast_mul]
        congr 1 <;> omega
      rw [Int.mul_comm] at hm
      omega
    rw [Nat.mul_assoc] at a
    omega
theorem WOk_void {way : List (List Com)} {m : Nat} (h : WOk way) (hl : way.length ≤ 1000) (hm : m ≤ 900) : WOk (way ++ List.replicate m []) := by
  refine ⟨?_, fun t => ?_⟩
  · rw [List.length_append, List.length_replicate]
    omega
  · rw [W_void]
    exact h.many t
theorem nIn_len (h : Hs) (w : Nat → List Com) (k : Nat) : ((S h w k).length : Int) + ((w k).length : Int) - ((lostN h (S h w k) (w k) : Nat) : Int) = nIn h w k := by
  have a := ins_len h (S h w k) (w k)
  unfold nIn Ins
  omega
/-- gone, at any time -/
def isGone (r : Row) : Bool := r.ent && r.gone.isSome
theorem gone_all {h : Hs} {w : Nat → List Com} {n : Nat} : ∀ {r : Row}, r ∈ (fo h w n).rows → isG 0 n r = isGone r := fun {r} hr => by
  have := (fo_ok h w n).be r hr
  unfold isG isGone
  rw [decide_eq_true (Nat.zero_le _), decide_eq_true this, Bool.and_self, Bool.and_true]
theorem gone_count {h : Hs} {w : Nat → List Com} {n : Nat} (hn : S h w n = []) : (((fo h w n).rows.filter isGone).length : Int) = sumTo (nLet h w) n := by
  have e : (fo h w n).rows.filter isGone = (fo h w n).rows.filter (isG 0 n) := List.filter_congr fun r hr => (gone_all hr).symm
  have g := (sums_between (b := 0) h w rfl hn (Nat.zero_le _) (Nat.le_refl _)).2.2
  rw [e]
  unfold goneIn at g
  rw [g]
  show _ - (0 : Int) = _
  omega
/-- of each is told that it is lost or gone -/
theorem told_head {h : Hs} {w : Nat → List Com} {n : Nat} (hn : S h w n = []) {r : Row} (hr : r ∈ (fo h w n).rows) :
    (isGone r = false ∧ ∃ t, crsV r = .str "lost" :: t) ∨ (isGone r = true ∧ ∃ t, crsV r = .str "gone" :: t) := by
  have o := not_open (opens_zero (h := h) (w := w) hn) r hr
  obtain ⟨rb, re, rw_, rg⟩ := r
  cases re with
  | false => exact .inl ⟨rfl, _, rfl⟩
  | true =>
    cases rg with
    | none => cases o
    | some m => exact .inr ⟨rfl, _, rfl⟩
end Hw

/-! The law. -/
namespace Hw
open PySem HwB L2
theorem at_neg1 {xs : List V} {n : Nat} {v : V} (hl : xs.length = n + 1) (h : xs[n]? = some v) : atI xs (-1) = some v := by
  have ne : xs ≠ [] := fun e => by rw [e] at hl; cases hl
  have e := List.dropLast_concat_getLast ne
  have q := atI_last xs.dropLast (xs.getLast ne)
  rw [e] at q
  rw [q, ← h, List.getLast_eq_getElem, List.getElem?_eq_getElem (by omega)]
  congr 2
  omega
section
variable {P : Program} {w : World} {K : PySem.W.Frag} {mg : Str → Option Value} {base : Heap}
def spLaw (K : PySem.W.Frag) : Sp := fun vs H Q _ => ∃ (a : Addr) (ns : List Int), vs = [.ref a] ∧ SqL K H a (ns.map V.int) ∧ ∀ H', Q (.bl true) H'
abbrev nLaw : List Str := ["_law_script", "_law_feed_here", "_law_house_here", "_law_way_here", "_law_told", "_law_stands", "_law_lost", "_law_gone", "_law_counts", "_law_many", "_law_last", "_law_some", "_law_first", "_law_at", "_law_begin", "_law_end", "_law_course"]
theorem scLaw : FnScope nLaw ["_law_script"] (defScope sLaw) := ⟨rfl, rfl, rfl, by decide +kernel, rfl, by decide +kernel, by decide +kernel⟩
structure Calls (P : Program) (w : World) (K : PySem.W.Frag) (mg : Str → Option Value) (base : Heap) : Prop where
  feed : Has P w K mg base "_law_feed" 1 ["_law_script"] (spFeed K)
  next : Has P w K mg base "_law_next" 1 ["_law_feed_here", "_law_many"] spNext
  house : Has P w K mg base "_law_house" 3 ["_law_feed_here"] spHouse
  light : Has P w K mg base "_law_light_way" 3 ["_law_feed_here"] spLight
  drained : Has P w K mg base "drained" 5 ["house", "way"] spDrained
  courses : Has P w K mg base "courses" 5 ["house", "way"] spCourses
  run : Has P w K mg base "run" 4 ["house", "way", "stand"] spRun
  busy : Has P w K mg base "busy_stretches" 5 ["house", "way"] spBusy
  both : HasG P w K mg base "_law_both_right" 7 ["_law_house_here", "_law_way_here", "_law_told", "_law_counts", "_law_begin", "_law_end", "_law_is_asked"] spBoth
theorem ok_law {f : Addr} {fd : FuncData} (F : Fun K "law" "law" sLaw f fd) (T : Blt mg) (C : Calls P w K mg base) : HwD.FnG P w K mg base 8 f fd ["_law_script"] (spLaw K) := by
  refine HwD.okG F scLaw (fun vs H Q h => ?_) (fun cdv A outer s H vs Q hg hr h => ?_)
  · obtain ⟨a, ns, rfl, _⟩ := h
    rfl
  · obtain ⟨a, ns, rfl, ha, q⟩ := h
    have nd := scLaw.nd
    refine ⟨_, (pss_cons (ps_set (i := 1) nd rfl (Or.inl rfl) (pe_has C.feed (hr.mono (by decide)) (pa_cons (pv 0) pa_nil)))
      (pss_cons (ps_set (i := 2) nd rfl (Or.inl rfl) (pe_has C.house (hr.mono (by decide)) (pa_cons (pv 1) pa_nil)))
      (pss_cons (ps_set (i := 3) nd rfl (Or.inr rfl) (pe_has C.drained (hr.mono (by decide)) (pa_cons (pv 2) (pa_cons (pe_has C.light (hr.mono (by decide)) (pa_cons (pv 1) pa_nil)) pa_nil))))
      (pss_cons (ps_set (i := 4) nd rfl (Or.inl rfl) (pe_has C.courses (hr.mono (by decide)) (pa_cons (pv 2) (pa_cons (pv 3) pa_nil))))
      (pss_cons (ps_asg (pe_has C.run (hr.mono (by decide)) (pa_cons (pv 2) (pa_cons (pv 3) (pa_cons (pe_tup pa_nil) pa_nil)))) (pg_tup rfl (pgs_cons (pg_name (i := 5) nd rfl (Or.inr rfl)) (pgs_cons (pg_name (i := 6) nd rfl (Or.inr rfl)) (pgs_cons (pg_name (i := 7) nd rfl (Or.inl rfl)) pgs_nil)))))
      (pss_cons (ps_setLc (i := 8) (own := [("_law_at", 13)]) (g := (gName 13)) (tt := tYes) rfl nd rfl rfl (sw_true rfl rfl rfl (by decide +kernel)) (pi_range1 rfl T.range (pa_cons (pe_callB call_len_seq (by rfl) T.len PySem.boot_len (pa_cons (pv 3) pa_nil)) pa_nil)) (blkOk_by (N := nLaw) (sc := defScope sLaw) (by decide +kernel)) (fun _ _ _ _ _ => (pg_name (i := 13) nd rfl (Or.inl rfl))) (fun _ _ _ _ _ => pts_nil) (fun _ _ _ _ _ => (pe_op op_sub (pe_op op_add (pe_callB (show CallR _ (.builtin "len") (rLenK K) from call_len_seq) (by rfl) T.len PySem.boot_len (pa_cons (pe_ix (show IxR _ (rIxT K) from ix_tup) (pv 5) (pv 13) (fun _ _ => rfl)) pa_nil)) (pe_callB (show CallR _ (.builtin "len") (rLenK K) from call_len_seq) (by rfl) T.len PySem.boot_len (pa_cons (pe_ix (show IxR _ (rIxT K) from ix_tup) (pv 3) (pv 13) (fun _ _ => rfl)) pa_nil))) (pe_ix (show IxR _ (rIxT K) from ix_tup) (pv 6) (pv 13) (fun _ _ => rfl)))))
      (pss_cons (ps_if (pt_join (PW.pt (pw_or (pt_cmpR (op_neD hr.units) (pe_lc (own := [("_law_course", 16)]) (g := (gName 16)) rfl nd (pi_list (pv 4)) (blkOk_by (N := nLaw) (sc := defScope sLaw) (by decide +kernel)) (fun _ _ _ _ _ => (pg_name (i := 16) nd rfl (Or.inl rfl))) (fun _ _ _ _ _ => (pts_one (pt_cmpR (show OpR _ (compareOp .NotIn) (rIn K true) from op_notIn_seq) (pe_ix (show IxR _ (rIxT K) from ix_tup) (pv 16) pe_int (fun _ _ => rfl)) (pe_tup (pa_cons pe_str (pa_cons pe_str pa_nil))) (by rfl)))) (fun _ _ _ _ _ => (pv 16))) (pe_lst pa_nil) (nomark _)) (pw_or1 (pt_cmpR (op_neD hr.units) (pe_ix ix_tup (pv 5) (pe_un un_neg pe_int) (fun _ _ => rfl)) (pe_tup pa_nil) (nomark _)))))) (pss_one (ps_ret pe_bl)) pss_nil)
      (pss_cons (ps_if (pt_not (pt_val (pe_hasG C.both hg (hr.mono (by decide)) (pa_cons (pv 2) (pa_cons (pv 3) (pa_cons (pv 4) (pa_cons (pv 8) (pa_cons pe_int (pa_cons (pe_callB call_len_seq (by rfl) T.len PySem.boot_len (pa_cons (pv 3) pa_nil)) (pa_cons pe_bl pa_nil)))))))))) (pss_one (ps_ret pe_bl)) pss_nil)
      (pss_cons (ps_set (i := 9) nd rfl (Or.inl rfl) pe_int)
      (pss_cons (ps_set (i := 10) nd rfl (Or.inl rfl) pe_int)
      (pss_cons (ps_set (i := 11) nd rfl (Or.inl rfl) (pe_has C.busy (hr.mono (by decide)) (pa_cons (pv 2) (pa_cons (pv 3) pa_nil))))
      (pss_cons (ps_set (i := 12) nd rfl (Or.inl rfl) (pe_has C.next (hr.mono (by decide)) (pa_cons (pv 1) (pa_cons (pe_op op_add (pe_callB call_len_seq (by rfl) T.len PySem.boot_len (pa_cons (pv 11) pa_nil)) pe_int) pa_nil))))
      (pss_cons (ps_for PassesOwn.never rfl (pi_range1 rfl T.range (pa_cons (pe_callB call_len_seq (by rfl) T.len PySem.boot_len (pa_cons (pv 11) pa_nil)) pa_nil)) (pg_name (i := 13) nd rfl (Or.inl rfl)) (pss_cons (ps_asg (pe_ix ix_list (pv 11) (pv 13) (fun _ _ => rfl)) (pg_tup rfl (pgs_cons (pg_name (i := 14) nd rfl (Or.inr rfl)) (pgs_cons (pg_name (i := 15) nd rfl (Or.inr rfl)) pgs_nil))))
      (pss_cons (ps_if (pt_join (PW.pt (pw_or (pt_cmpR op_isN (pv 15) pe_non (nomark _)) (pw_or (pt_not (pt_chain op_le op_lt (pv 10) (pv 14) (pv 15))) (pw_or (pt_cmpR (op_neD hr.units) (pe_ix ix_tup (pv 5) (pv 14) (fun _ _ => rfl)) (pe_tup pa_nil) (nomark _)) (pw_or1 (pt_cmpR (op_neD hr.units) (pe_ix ix_tup (pv 5) (pv 15) (fun _ _ => rfl)) (pe_tup pa_nil) (nomark _)))))))) (pss_one (ps_ret pe_bl)) pss_nil)
      (pss_cons (ps_if (pt_not (pt_val (pe_hasG C.both hg (hr.mono (by decide)) (pa_cons (pv 2) (pa_cons (pv 3) (pa_cons (pv 4) (pa_cons (pv 8) (pa_cons (pv 14) (pa_cons (pv 15) (pa_cons (pe_say (pe_chain op_le op_lt (pv 12) (pv 13) (pe_op op_add (pv 12) pe_int))) pa_nil)))))))))) (pss_one (ps_ret pe_bl)) pss_nil)
      (pss_cons (ps_set (i := 9) nd rfl (Or.inl rfl) (pe_op op_add (pv 9) (pe_callB call_len_seq (by rfl) T.len PySem.boot_len (pa_cons (pe_lc (own := [("_law_course", 16)]) (g := (gName 16)) rfl nd (pi_list (pv 4)) (blkOk_by (N := nLaw) (sc := defScope sLaw) (by decide +kernel)) (fun _ _ _ _ _ => (pg_name (i := 16) nd rfl (Or.inl rfl))) (fun _ _ _ _ _ => (pts_one (pt_join (PW.pt (pw_and (pt_cmpR op_eq (pe_ix (show IxR _ (rIxT K) from ix_tup) (pv 16) pe_int (fun _ _ => rfl)) pe_str (nomark _)) (pw_and1 (pt_chain op_le op_lt (pv 14) (pe_ix (show IxR _ (rIxT K) from ix_tup) (pv 16) pe_int (fun _ _ => rfl)) (pv 15)))))))) (fun _ _ _ _ _ => (pv 16))) pa_nil))))
      (pss_one (ps_set (i := 10) nd rfl (Or.inl rfl) (pv 15))))))))
      (pss_one (ps_ret (pe_cmpR op_eq (pv 9) (pe_callB call_len_seq (by rfl) T.len PySem.boot_len (pa_cons (pe_lc (own := [("_law_course", 16)]) (g := (gName 16)) rfl nd (pi_list (pv 4)) (blkOk_by (N := nLaw) (sc := defScope sLaw) (by decide +kernel)) (fun _ _ _ _ _ => (pg_name (i := 16) nd rfl (Or.inl rfl))) (fun _ _ _ _ _ => (pts_one (pt_cmpR op_eq (pe_ix (show IxR _ (rIxT K) from ix_tup) (pv 16) pe_int (fun _ _ => rfl)) pe_str (nomark _)))) (fun _ _ _ _ _ => (pv 16))) pa_nil)) (nomark _))))))))))))))))), ?_⟩
    have s24 : (16777216 : Nat) ≤ sizeLine := by decide
    -- the feed, the house
    refine ⟨_, rfl, a, ns, rfl, ha, fun p l H1 np s1 F1 => ?_⟩
    refine ⟨_, rfl, p, l, 0, rfl, F1, by omega, fun h vh H2 hh h1 F2 K2 => ?_⟩
    -- the way
    refine ⟨_, rfl, _, rfl, p, l, 3, rfl, F2, by omega, fun way0 vw0 H3 B Wk hw0 wl0 wg hB hWk hm F3 K3 => ?_⟩
    obtain ⟨G1, G2, G3⟩ := way_good wl0 wg hB hWk hm
    refine ⟨h, way0, _, _, rfl, isHs_up (K3.ftk F2) hh, hw0, h1, G1, G2, G3, fun m vw H4 hm9 hend s4 hw => ?_⟩
    have F4 := F3.same s4
    have hh4 := isHs_up s4.tk (isHs_up (K3.ftk F2) hh)
    have hW : WOk (way0 ++ List.replicate m []) := WOk_void G1 (by omega) hm9
    have hS : S h (W (way0 ++ List.replicate m [])) (way0 ++ List.replicate m []).length = [] := by
      rw [W_void, List.length_append, List.length_replicate]
      exact hend
    have hlen : (way0 ++ List.replicate m []).length ≤ 924 := by
      rw [List.length_append, List.length_replicate]
      omega
    generalize way0 ++ List.replicate m [] = way at hw hW hS hlen
    have h0 : 0 ≤ h.hands := by omega
    clear G1 G2 G3 hend wg wl0 hw0 hm9 hh F3 F2 F1 K3 K2 s4 s1 ha
    -- told = courses(house, way)
    refine ⟨_, rfl, _, rfl, h, way, _, _, rfl, hh4, hw, h0, hW, fun ct cxs H5 nct s5 hct pc => ?_⟩
    have nect := (F4.ne_new nct).1
    -- stands, lost, gone = run(house, way, ())
    refine ⟨_, rfl, _, rfl, Nat.zero_le _, fun p0 n0 => ?_⟩
    have s50 := s5.trans (same_new (o := .tup []) n0)
    refine ⟨h, way, _, _, _, rfl, isHs_up s50.tk hh4, isWay_up s50.tk hw, ⟨p0, [], rfl, upd_same, .nil⟩, h0, hW, fun v1 H6 s6 hv1 => ?_⟩
    obtain ⟨a1, x1, y1, z1, rfl, ha1, ⟨ax, xxs, rfl, hax, px⟩, ⟨al, rfl, hal⟩, -⟩ := hv1
    refine ⟨a1, _, rfl, SqT.of ha1, rfl, _, _, rfl, _, _, rfl, _, _, rfl, rfl, ?_⟩
    have hct6 := s6 _ _ (same_new (o := .tup []) n0 _ _ hct)
    have pc6 := pair_mono (fun _ _ z => isCrs_up (((same_new (o := .tup []) n0).trans s6)).tk z) pc
    have s46 := s50.trans s6
    have hh6 := isHs_up s46.tk hh4
    have hw6 := isWay_up s46.tk hw
    have F6 := F4.same s46
    clear ha1 s50 s6 n0 pc hct nct s5 hh4 hw F4 s46
    have xl : xxs.length = way.length + 1 := by
      rw [px.length]
      unfold standsL
      rw [List.length_map, List.length_range]
    have stand_at : ∀ k, k ≤ way.length → ∀ H', TK H6 H' → ∃ v, xxs[k]? = some v ∧ isSt H' v (S h (W way) k) := fun k hk H' t => by
      have lx : (standsL h way (way.length + 1))[k]? = some (S h (W way) k) := by
        unfold standsL
        rw [List.getElem?_map, List.getElem?_range (by omega)]
        rfl
      obtain ⟨v, hv, hs⟩ := pair_get' px lx
      exact ⟨v, hv, isSt_up t hs⟩
    obtain ⟨aw, wxs, rfl, haw, pw⟩ := id hw6
    have wl : wxs.length = way.length := pw.length
    -- counts = [..]
    refine ⟨_, rfl, aw, _, rfl, .inr (SqT.of haw), ((wxs.length : Nat) : Int), rfl, by omega, by omega, fun D hD => ?_⟩
    rw [show ((wxs.length : Nat) : Int).toNat = way.length by omega]
    refine lc_range (lo := 0) (n := way.length) (fun i H' => Same H6 H' ∧ H' D = some (.lst (((List.range i).map (nIn h (W way))).map V.int))) ⟨same_new hD, upd_same⟩ ?_ ?_
    · rintro i H7 hi ⟨sm, hd⟩
      have e0 : (0 : Int) + (i : Int) = (i : Int) := by omega
      obtain ⟨vi, hvi, hsi⟩ := stand_at i (by omega) H7 sm.tk
      obtain ⟨b, hb⟩ : ∃ b, way[i]? = some b := ⟨way[i], List.getElem?_eq_getElem hi⟩
      have eb := W_get hb
      obtain ⟨vb, hvb, ⟨abt, bxs, rfl, hab, pb⟩⟩ := pair_get' pw hb
      obtain ⟨ast, sxs, rfl, hast, pst⟩ := hsi
      have bl : bxs.length = b.length := pb.length
      have sl : sxs.length = (S h (W way) i).length := pst.length
      have hlost : ((lostL h way way.length).map V.int)[i]? = some (.int ((lostN h (S h (W way) i) (W way i) : Nat) : Int)) := by
        unfold lostL
        rw [List.getElem?_map, List.getElem?_map, List.getElem?_range hi]
        rfl
      refine ⟨rfl, ?_⟩
      refine ⟨_, rfl, _, rfl, ax, _, _, _, rfl, rfl, SqT.of (sm _ _ hax), by rw [e0]; exact atI_nat hvi, ast, _, rfl, .inr (SqT.of hast), ?_⟩
      refine ⟨_, rfl, _, rfl, aw, _, _, _, rfl, rfl, SqT.of (sm _ _ haw), by rw [e0]; exact atI_nat hvb, abt, _, rfl, .inr (SqT.of (sm _ _ hab)), _, _, rfl, rfl, ?_⟩
      refine ⟨_, rfl, _, rfl, al, _, _, _, rfl, rfl, SqT.of (sm _ _ hal), by rw [e0]; exact atI_nat hlost, _, _, rfl, rfl, ?_⟩
      refine ⟨_, hd, by rw [List.length_map, List.length_map, List.length_range]; omega, same_mut sm hD, ?_⟩
      have en := nIn_len h (W way) i
      rw [upd_same, range_map, List.map_append, sl, bl, ← eb, ← en]
      rfl
    rintro H7 ⟨s7, hd7⟩
    have hct7 := s7 _ _ hct6
    have pc7 := pair_mono (fun _ _ z => isCrs_up s7.tk z) pc6
    have hh7 := isHs_up s7.tk hh6
    have hw7 := isWay_up s7.tk hw6
    have F7 := F6.same s7
    have hax7 := s7 _ _ hax
    have haw7 := s7 _ _ haw
    have st7 : ∀ k, k ≤ way.length → ∀ H', TK H7 H' → ∃ v, xxs[k]? = some v ∧ isSt H' v (S h (W way) k) := fun k hk H' t => stand_at k hk H' (s7.tk.trans t)
    have neD := (F6.ne_new hD).1
    clear hct6 pc6 hh6 hw6 F6 hD haw hax hal px pw stand_at s7
    have fr := fo_rows h (W way) way.length
    have ml := hW.many way.length
    have cl : cxs.length = (fo h (W way) way.length).rows.length := pc7.length
    -- nobody is on the way still, nobody stands behind
    refine ⟨false, fun H8 => Same H7 H8, ?_, ?_⟩
    · refine ⟨_, rfl, ct, rfl, ⟨_, SqL.of hct7⟩, fun D2 hD2 => ?_⟩
      refine lc_list (K := K) (a := ct) (xs := cxs) (fun k H' => Same H7 H' ∧ H' D2 = some (.lst [])) ⟨same_new hD2, upd_same⟩ (fun k H' _ ⟨sm, _⟩ => SqL.of (sm _ _ hct7)) ?_ ?_
      · rintro k y H8 hi ⟨sm, h8⟩
        obtain ⟨r, hr', ar, rfl, har⟩ := pair_get pc7 hi
        have har8 := sm _ _ har
        refine ⟨rfl, ?_⟩
        rcases told_head hS (List.mem_of_getElem? hr') with ⟨-, t, e⟩ | ⟨-, t, e⟩
        · rw [e] at har8
          refine ⟨_, rfl, ar, _, _, _, rfl, rfl, SqT.of har8, atI_nat (j := 0) rfl, (by show 2 ≤ sizeLine; decide), fun p9 n9 => ?_⟩
          have s9 := same_new (o := .tup [.str "lost", .str "gone"]) n9
          refine ⟨p9, _, rfl, .inr (SqT.of upd_same), rfl, rfl, _, rfl, ?_⟩
          exact ite2 (fun c => absurd c (by decide +kernel)) (fun _ => ⟨sm.trans s9, s9 _ _ h8⟩)
        · rw [e] at har8
          refine ⟨_, rfl, ar, _, _, _, rfl, rfl, SqT.of har8, atI_nat (j := 0) rfl, (by show 2 ≤ sizeLine; decide), fun p9 n9 => ?_⟩
          have s9 := same_new (o := .tup [.str "lost", .str "gone"]) n9
          refine ⟨p9, _, rfl, .inr (SqT.of upd_same), rfl, rfl, _, rfl, ?_⟩
          exact ite2 (fun c => absurd c (by decide +kernel)) (fun _ => ⟨sm.trans s9, s9 _ _ h8⟩)
      · rintro H8 ⟨sm, h8⟩
        refine ⟨Nat.zero_le _, fun p9 n9 => ?_⟩
        have s9 := same_new (o := .lst []) n9
        refine ne_noints (l := []) (SqL.of (s9 _ _ h8)) upd_same ⟨_, rfl, ?_⟩
        refine ite2 (fun c => absurd c (by decide)) (fun _ => ?_)
        have sm9 := sm.trans s9
        obtain ⟨v, hv, hsv⟩ := st7 way.length (Nat.le_refl _) _ sm9.tk
        refine ⟨_, rfl, _, rfl, ax, _, _, v, rfl, rfl, SqT.of (sm9 _ _ hax7), at_neg1 xl hv, Nat.zero_le _, fun p10 n10 => ?_⟩
        have s10 := same_new (o := .tup []) n10
        refine ne_nobody (isSt_up s10.tk hsv) upd_same ⟨_, rfl, ?_, sm9.trans s10⟩
        rw [hS]
        rfl
    rintro H8 s8
    -- over the whole way
    refine ⟨_, rfl, _, rfl, _, rfl, _, rfl, _, rfl, aw, _, rfl, .inr (SqT.of (s8 _ _ haw7)), ?_⟩
    refine ⟨h, way, _, _, ct, D, cxs, 0, way.length, true, (by rw [← wl]; rfl), isHs_up s8.tk hh7, isWay_up s8.tk hw7, h0, hW, s8 _ _ hct7, pair_mono (fun _ _ z => isCrs_up s8.tk z) pc7, s8 _ _ hd7, Nat.zero_le _, Nat.le_refl _, rfl, hS, fun H9 s9 => ?_⟩
    refine ⟨true, rfl, ?_⟩
    refine ite2 (fun c => absurd c (by decide)) (fun _ => ?_)
    have s79 := s8.trans s9
    -- many = 0; last = 0; some = busy_stretches(house, way)
    refine ⟨_, rfl, _, rfl, h, way, _, _, rfl, isHs_up s79.tk hh7, isWay_up s79.tk hw7, h0, hW, fun sa sxs H10 nsa s10 hsa ps => ?_⟩
    have s710 := s79.trans s10
    have F10 := F7.same s710
    have nesa := ((F7.same s79).ne_new nsa).1
    have bl : (begins h (W way) way.length).length ≤ way.length := by
      unfold begins
      exact Nat.le_trans (List.length_filter_le _ _) (by rw [List.length_range]; exact Nat.le_refl _)
    have sl : sxs.length = (begins h (W way) way.length).length := ps.length
    -- first = ..
    refine ⟨_, rfl, _, rfl, sa, _, rfl, .inl (SqL.of hsa), _, _, rfl, rfl, p, l, _, _, rfl, by omega, by omega, F10, by omega, fun d H11 d0 d1 F11 K11 => ?_⟩
    have t11 := K11.ftk F10
    have hct11 := K11 _ _ (s710 _ _ hct7) nect.symm
    have hd11 := K11 _ _ (s710 _ _ hd7) neD.symm
    have hsa11 := K11 _ _ hsa nesa.symm
    have pc11 := pair_mono (fun _ _ z => isCrs_up (s710.tk.trans t11) z) pc7
    have hh11 := isHs_up (s710.tk.trans t11) hh7
    have hw11 := isWay_up (s710.tk.trans t11) hw7
    have ps11 := pair_mono (fun _ _ z => isSE_up t11 z) ps
    have hax11 := t11 _ _ (s710 _ _ hax7)
    have st11 : ∀ k, k ≤ way.length → ∀ H', TK H11 H' → ∃ v, xxs[k]? = some v ∧ isSt H' v (S h (W way) k) := fun k hk H' t => st7 k hk H' ((s710.tk.trans t11).trans t)
    clear hct7 hd7 hsa pc7 hh7 hw7 ps hax7 st7 t11 K11 F10 F11 F7 s710 s10 s79 s9 s8 haw7 nsa nect neD nesa d0 d1
    -- the loop
    refine ⟨_, rfl, sa, _, rfl, .inl (SqL.of hsa11), ((sxs.length : Nat) : Int), rfl, by omega, by omega, ?_⟩
    rw [show ((sxs.length : Nat) : Int).toNat = (begins h (W way) way.length).length by omega]
    refine for_range (lo := 0) (n := (begins h (W way) way.length).length) (fun i σ H' => ∃ (last : Nat) (w13 w14 w15 w16 : Option V), σ = [some (.ref a), some (.ref p), some vh, some (.ref aw), some (.ref ct), some (.ref ax), some (.ref al), some z1, some (.ref D),
        some (.int (sumTo (nLet h (W way)) last)), some (.int (last : Int)), some (.ref sa), some (.int d), w13, w14, w15, w16] ∧ Same H11 H' ∧ At h (W way) way.length i last)
      ⟨0, none, none, none, none, rfl, Same.refl _, at_zero _ _ _⟩ ?_ ?_
    · rintro i σ H12 hi ⟨last, w13, w14, w15, w16, rfl, sm, A0⟩
      obtain ⟨b, hb⟩ : ∃ b, (begins h (W way) way.length)[i]? = some b := ⟨_, List.getElem?_eq_getElem hi⟩
      obtain ⟨xt, hxt, t, rfl, ht⟩ := pair_get' ps11 hb
      obtain ⟨e, r, he, lb, be, en, Sb, Se, eq, A1⟩ := at_next A0 hS hb
      rw [he] at ht
      have e0 : (0 : Int) + (i : Int) = (i : Int) := by omega
      -- begin, end = some[at]
      refine ⟨_, rfl, _, rfl, sa, _, _, _, rfl, rfl, SqL.of (sm _ _ hsa11), by rw [e0]; exact atI_nat hxt, ?_⟩
      refine ⟨t, _, rfl, SqT.of (sm _ _ ht), rfl, _, _, rfl, _, _, rfl, rfl, ?_⟩
      -- the test
      refine ⟨false, fun H13 => Same H12 H13, ?_, ?_⟩
      · refine ⟨_, rfl, rfl, _, rfl, ?_⟩
        refine ite2 (fun c => nomatch (of_decide_eq_true c : V.int (e : Int) = V.non)) (fun _ => ?_)
        refine ⟨_, rfl, _, rfl, _, _, rfl, rfl, _, rfl, ?_⟩
        refine ite2 (fun _ => ?_) (fun c => absurd (decide_eq_true (by omega)) c)
        refine ⟨_, rfl, _, _, rfl, rfl, _, rfl, ?_⟩
        refine ite2 (fun c => ?_) (fun _ => ?_)
        · rw [decide_eq_true (by omega)] at c
          cases c
        obtain ⟨vb, hvb, hsb⟩ := st11 b (by omega) H12 sm.tk
        refine ⟨_, rfl, _, rfl, ax, _, _, vb, rfl, rfl, SqT.of (sm _ _ hax11), atI_nat hvb, Nat.zero_le _, fun p1 n1 => ?_⟩
        have s1 := same_new (o := .tup []) n1
        refine ne_nobody (isSt_up s1.tk hsb) upd_same ⟨_, rfl, ?_⟩
        rw [Sb]
        refine ite2 (fun c => absurd c (by decide)) (fun _ => ?_)
        obtain ⟨ve, hve, hse⟩ := st11 e en _ (sm.trans s1).tk
        refine ⟨_, rfl, _, rfl, ax, _, _, ve, rfl, rfl, SqT.of ((sm.trans s1) _ _ hax11), atI_nat hve, Nat.zero_le _, fun p2 n2 => ?_⟩
        have s2 := same_new (o := .tup []) n2
        refine ne_nobody (isSt_up s2.tk hse) upd_same ⟨_, rfl, ?_, s1.trans s2⟩
        rw [Se]
        rfl
      rintro H13 s13
      have sm13 := sm.trans s13
      -- the stretch
      refine ⟨_, rfl, _, rfl, _, rfl, _, rfl, _, rfl, _, rfl, fun v H14 => (∃ q, v = .bl q) ∧ H14 = H13, ?_, ?_⟩
      · refine ⟨_, rfl, _, rfl, _, _, rfl, rfl, _, rfl, ?_⟩
        exact ite2 (fun _ => ⟨_, rfl, _, _, rfl, rfl, _, _, rfl, rfl, ⟨_, rfl⟩, rfl⟩) (fun _ => ⟨⟨_, rfl⟩, rfl⟩)
      rintro v H14 ⟨⟨ask, rfl⟩, rfl⟩
      refine ⟨h, way, _, _, ct, D, cxs, b, e, ask, rfl, isHs_up sm13.tk hh11, isWay_up sm13.tk hw11, h0, hW, sm13 _ _ hct11, pair_mono (fun _ _ z => isCrs_up sm13.tk z) pc11, sm13 _ _ hd11, by omega, en, Sb, Se, fun H15 s15 => ?_⟩
      refine ⟨true, rfl, ?_⟩
      refine ite2 (fun c => absurd c (by decide)) (fun _ => ?_)
      have sm15 := sm13.trans s15
      have hct15 := sm15 _ _ hct11
      have pc15 := pair_mono (fun _ _ z => isCrs_up sm15.tk z) pc11
      -- many = many + len([..])
      refine ⟨_, rfl, _, rfl, ct, rfl, ⟨_, SqL.of hct15⟩, fun D2 hD2 => ?_⟩
      refine lc_list (K := K) (a := ct) (xs := cxs) (fun k H' => ∃ xs, Same H15 H' ∧ H' D2 = some (.lst xs) ∧ xs.length = (((fo h (W way) way.length).rows.take k).filter (isG b e)).length)
        ⟨[], same_new hD2, upd_same, rfl⟩ (fun k H' _ ⟨_, sm, _⟩ => SqL.of (sm _ _ hct15)) ?_ ?_
      · rintro k y H3 hi ⟨xs, sm, hx, px⟩
        obtain ⟨r, hr', ar, rfl, har⟩ := pair_get pc15 hi
        have har3 := sm _ _ har
        rw [filt_snoc hr', List.length_append]
        refine ⟨rfl, isG b e r, fun H4 => H4 = H3, ?_, ?_⟩
        · obtain ⟨rb, re, rw_, rg⟩ := r
          cases re with
          | false =>
            refine ⟨_, rfl, ar, _, _, _, rfl, rfl, SqT.of har3, atI_nat (j := 0) rfl, rfl, _, rfl, ?_⟩
            exact ite2 (fun c => absurd (V.str.inj (of_decide_eq_true c) : ("lost" : Str) = "gone") (by decide +kernel)) (fun _ => ⟨rfl, rfl⟩)
          | true =>
            cases rg with
            | none =>
              refine ⟨_, rfl, ar, _, _, _, rfl, rfl, SqT.of har3, atI_nat (j := 0) rfl, rfl, _, rfl, ?_⟩
              exact ite2 (fun c => absurd (V.str.inj (of_decide_eq_true c) : ("in" : Str) = "gone") (by decide +kernel)) (fun _ => ⟨rfl, rfl⟩)
            | some m =>
              refine ⟨_, rfl, ar, _, _, _, rfl, rfl, SqT.of har3, atI_nat (j := 0) rfl, rfl, _, rfl, ?_⟩
              refine ite2 (fun _ => ?_) (fun c => absurd (decide_eq_true rfl) c)
              refine ⟨_, rfl, _, rfl, ar, _, _, _, rfl, rfl, SqT.of har3, atI_nat (j := 1) rfl, _, _, rfl, rfl, _, rfl, ?_⟩
              have eg : isG b e ⟨rb, true, rw_, some m⟩ = (decide ((b : Int) ≤ (rb : Int)) && decide ((rb : Int) < (e : Int))) := by
                show (true && true && (decide (b ≤ rb) && decide (rb < e))) = _
                rw [Bool.and_self, Bool.true_and]
                congr 1 <;> exact decide_eq_decide.mpr (by omega)
              rw [eg]
              refine ite2 (fun c => ?_) (fun c => ?_)
              · refine ⟨_, rfl, _, _, rfl, rfl, _, rfl, ?_, rfl⟩
                rw [c, Bool.true_and]
              · refine ⟨_, rfl, ?_, rfl⟩
                rw [(Bool.not_eq_true _).mp c, Bool.false_and]
        rintro H4 rfl
        refine ite2 (fun c => ?_) (fun c => ?_)
        · have xl2 : xs.length ≤ k := by
            rw [px]
            exact Nat.le_trans (List.length_filter_le _ _) (by rw [List.length_take]; omega)
          have kl : k < (fo h (W way) way.length).rows.length := (List.getElem?_eq_some_iff.mp hr').1
          refine ⟨_, rfl, xs, hx, by omega, xs ++ [.ref ar], same_mut sm hD2, upd_same, ?_⟩
          rw [if_pos c, List.length_append, px]
          rfl
        · refine ⟨xs, sm, hx, ?_⟩
          rw [if_neg c, px]
          rfl
      rintro H16 ⟨xs, s16, hx, px⟩
      rw [cl, List.take_length] at px
      refine ⟨D2, _, rfl, .inl (SqL.of hx), _, _, rfl, rfl, ?_⟩
      -- last = end
      have g3 := (sums_between h (W way) Sb Se (by omega) en).2.2
      have ex : sumTo (nLet h (W way)) last + ((xs.length : Nat) : Int) = sumTo (nLet h (W way)) e := by
        rw [px]
        unfold goneIn at g3
        omega
      refine ⟨_, rfl, ?_⟩
      refine ⟨e, some (.int ((0 : Int) + (i : Int))), some (natV b), some (eV (e :: r)), w16, ?_, sm15.trans s16, A1⟩
      rw [← ex]
      rfl
    · rintro σ H12 ⟨last, w13, w14, w15, w16, rfl, sm, A0⟩
      have ae := at_end A0
      have gc := gone_count (h := h) (w := W way) hS
      have hct12 := sm _ _ hct11
      refine ⟨_, rfl, _, rfl, ct, rfl, ⟨_, SqL.of hct12⟩, fun D2 hD2 => ?_⟩
      refine lc_list (K := K) (a := ct) (xs := cxs) (fun k H' => ∃ xs, Same H12 H' ∧ H' D2 = some (.lst xs) ∧ xs.length = (((fo h (W way) way.length).rows.take k).filter isGone).length)
        ⟨[], same_new hD2, upd_same, rfl⟩ (fun k H' _ ⟨_, sm, _⟩ => SqL.of (sm _ _ hct12)) ?_ ?_
      · rintro k y H3 hi ⟨xs, sm3, hx, px⟩
        obtain ⟨r, hr', ar, rfl, har⟩ := pair_get pc11 hi
        have har3 := sm3 _ _ (sm _ _ har)
        have xl2 : xs.length ≤ k := by
          rw [px]
          exact Nat.le_trans (List.length_filter_le _ _) (by rw [List.length_take]; omega)
        have kl : k < (fo h (W way) way.length).rows.length := (List.getElem?_eq_some_iff.mp hr').1
        rw [filt_snoc hr', List.length_append]
        refine ⟨rfl, ?_⟩
        rcases told_head hS (List.mem_of_getElem? hr') with ⟨g, t, et⟩ | ⟨g, t, et⟩
        · rw [et] at har3
          refine ⟨_, rfl, ar, _, _, _, rfl, rfl, SqT.of har3, atI_nat (j := 0) rfl, rfl, _, rfl, ?_⟩
          refine ite2 (fun c => absurd (V.str.inj (of_decide_eq_true c) : ("lost" : Str) = "gone") (by decide +kernel)) (fun _ => ⟨xs, sm3, hx, ?_⟩)
          rw [g, px]
          rfl
        · rw [et] at har3
          refine ⟨_, rfl, ar, _, _, _, rfl, rfl, SqT.of har3, atI_nat (j := 0) rfl, rfl, _, rfl, ?_⟩
          refine ite2 (fun _ => ⟨_, rfl, xs, hx, by omega, xs ++ [.ref ar], same_mut sm3 hD2, upd_same, ?_⟩) (fun c => absurd (decide_eq_true rfl) c)
          rw [g, List.length_append, px]
          rfl
      rintro H13 ⟨xs, s13, hx, px⟩
      rw [cl, List.take_length] at px
      refine ⟨D2, _, rfl, .inl (SqL.of hx), rfl, ?_⟩
      have ex : sumTo (nLet h (W way)) last = ((xs.length : Nat) : Int) := by
        rw [px, ← ae, gc]
      rw [ex, decide_eq_true rfl]
      exact q _
end
end Hw

/-! What the top has written; the law's end. -/
namespace Hw
open PySem HwB L2
theorem all_mk {l : PySem.W.OpenLaw} {w : World} {K : PySem.W.Frag} {h : Heap} {mg : Str → Option Value} {fa C aK f1 f2 f3 f4 f5 f6 f7 f8 f9 f10 f11 f12 f13 f14 f15 f16 f17 f18 f19 f20 f21 f22 : Addr} (X : K.In h) (G : h.Ns mainGlobals mg) (hfa : mg "law" = some (.ref fa))
    {odK : Option Addr} {itsK : Array Value} {nK : Nat} {slK : Array (Option Value)} {od1 od2 od3 od4 od5 od6 od7 od8 od9 od10 od11 od12 od13 od14 od15 od16 od17 od18 od19 od20 od21 od22 an1 an2 an3 an4 an5 an6 an7 an8 an9 an10 an11 an12 an13 an14 an15 an16 an17 an18 an19 an20 an21 an22 : Option Addr} {sl1 sl2 sl3 sl4 sl5 sl6 sl7 sl8 sl9 sl10 sl11 sl12 sl13 sl14 sl15 sl16 sl17 sl18 sl19 sl20 sl21 sl22 : Array (Option Value)} {oc1 kV1 dc1 pm1 cd1 ct1 oc2 kV2 dc2 pm2 cd2 ct2 oc3 kV3 dc3 pm3 cd3 ct3 oc4 kV4 dc4 pm4 cd4 ct4 oc5 kV5 dc5 pm5 cd5 ct5 oc6 kV6 dc6 pm6 cd6 ct6 oc7 kV7 dc7 pm7 cd7 ct7 oc8 kV8 dc8 pm8 cd8 ct8 oc9 kV9 dc9 pm9 cd9 ct9 oc10 kV10 dc10 pm10 cd10 ct10 oc11 kV11 dc11 pm11 cd11 ct11 oc12 kV12 dc12 pm12 cd12 ct12 oc13 kV13 dc13 pm13 cd13 ct13 oc14 kV14 dc14 pm14 cd14 ct14 oc15 kV15 dc15 pm15 cd15 ct15 oc16 kV16 dc16 pm16 cd16 ct16 oc17 kV17 dc17 pm17 cd17 ct17 oc18 kV18 dc18 pm18 cd18 ct18 oc19 kV19 dc19 pm19 cd19 ct19 oc20 kV20 dc20 pm20 cd20 ct20 oc21 kV21 dc21 pm21 cd21 ct21 oc22 kV22 dc22 pm22 cd22 ct22 : Value}
    (aK0 : PySem.W.nsIn K mainGlobals "KEEPING" = some (some (.ref aK)))
    (lK0 : K.lookup aK = some ⟨.type "tuple", odK, .seq itsK nK, slK⟩)
    (vK0 : Vals keepV itsK.toList)
    (aC : PySem.W.nsIn K mainGlobals "Follower" = some (some (.ref C)))
    (a1 : PySem.W.nsIn K mainGlobals "keeps" = some (some (.ref f1)))
    (l1 : K.lookup f1 = some ⟨oc1, od1, .func (PySem.W.fnOf "keeps" "keeps" (defArgs sKeeps) (defBody sKeeps) (defScope sKeeps) .none kV1 dc1 pm1 an1 cd1 ct1), sl1⟩)
    (c1 : PySem.W.codeIn K cd1 "keeps" = true)
    (k1 : PySem.W.keepIn K (.ref f1) = true)
    (a2 : PySem.W.nsIn K mainGlobals "let_in" = some (some (.ref f2)))
    (l2 : K.lookup f2 = some ⟨oc2, od2, .func (PySem.W.fnOf "let_in" "let_in" (defArgs sLetIn) (defBody sLetIn) (defScope sLetIn) .none kV2 dc2 pm2 an2 cd2 ct2), sl2⟩)
    (c2 : PySem.W.codeIn K cd2 "let_in" = true)
    (k2 : PySem.W.keepIn K (.ref f2) = true)
    (a3 : PySem.W.nsIn K mainGlobals "turn_of" = some (some (.ref f3)))
    (l3 : K.lookup f3 = some ⟨oc3, od3, .func (PySem.W.fnOf "turn_of" "turn_of" (defArgs sTurnOf) (defBody sTurnOf) (defScope sTurnOf) .none kV3 dc3 pm3 an3 cd3 ct3), sl3⟩)
    (c3 : PySem.W.codeIn K cd3 "turn_of" = true)
    (k3 : PySem.W.keepIn K (.ref f3) = true)
    (a4 : PySem.W.nsIn K mainGlobals "picked" = some (some (.ref f4)))
    (l4 : K.lookup f4 = some ⟨oc4, od4, .func (PySem.W.fnOf "picked" "picked" (defArgs sPicked) (defBody sPicked) (defScope sPicked) .none kV4 dc4 pm4 an4 cd4 ct4), sl4⟩)
    (c4 : PySem.W.codeIn K cd4 "picked" = true)
    (k4 : PySem.W.keepIn K (.ref f4) = true)
    (a5 : PySem.W.nsIn K mainGlobals "step" = some (some (.ref f5)))
    (l5 : K.lookup f5 = some ⟨oc5, od5, .func (PySem.W.fnOf "step" "step" (defArgs sStep) (defBody sStep) (defScope sStep) .none kV5 dc5 pm5 an5 cd5 ct5), sl5⟩)
    (c5 : PySem.W.codeIn K cd5 "step" = true)
    (k5 : PySem.W.keepIn K (.ref f5) = true)
    (a6 : PySem.W.nsIn K mainGlobals "run" = some (some (.ref f6)))
    (l6 : K.lookup f6 = some ⟨oc6, od6, .func (PySem.W.fnOf "run" "run" (defArgs sRun) (defBody sRun) (defScope sRun) .none kV6 dc6 pm6 an6 cd6 ct6), sl6⟩)
    (c6 : PySem.W.codeIn K cd6 "run" = true)
    (k6 : PySem.W.keepIn K (.ref f6) = true)
    (a7 : PySem.W.nsIn K mainGlobals "names_behind" = some (some (.ref f7)))
    (l7 : K.lookup f7 = some ⟨oc7, od7, .func (PySem.W.fnOf "names_behind" "names_behind" (defArgs sNames) (defBody sNames) (defScope sNames) .none kV7 dc7 pm7 an7 cd7 ct7), sl7⟩)
    (c7 : PySem.W.codeIn K cd7 "names_behind" = true)
    (k7 : PySem.W.keepIn K (.ref f7) = true)
    (a8 : PySem.W.findIn K (.ref C) "__init__" = some (some (.ref f8)))
    (i8 : PySem.W.isFn K (.ref f8) = true)
    (l8 : K.lookup f8 = some ⟨oc8, od8, .func (PySem.W.fnOf "__init__" "Follower.__init__" (defArgs sInit) (defBody sInit) (defScope sInit) .none kV8 dc8 pm8 an8 cd8 ct8), sl8⟩)
    (c8 : PySem.W.codeIn K cd8 "Follower.__init__" = true)
    (k8 : PySem.W.keepIn K (.ref f8) = true)
    (a9 : PySem.W.findIn K (.ref C) "take_beat" = some (some (.ref f9)))
    (i9 : PySem.W.isFn K (.ref f9) = true)
    (l9 : K.lookup f9 = some ⟨oc9, od9, .func (PySem.W.fnOf "take_beat" "Follower.take_beat" (defArgs sTake) (defBody sTake) (defScope sTake) .none kV9 dc9 pm9 an9 cd9 ct9), sl9⟩)
    (c9 : PySem.W.codeIn K cd9 "Follower.take_beat" = true)
    (k9 : PySem.W.keepIn K (.ref f9) = true)
    (a10 : PySem.W.findIn K (.ref C) "course_of" = some (some (.ref f10)))
    (i10 : PySem.W.isFn K (.ref f10) = true)
    (l10 : K.lookup f10 = some ⟨oc10, od10, .func (PySem.W.fnOf "course_of" "Follower.course_of" (defArgs sCourse) (defBody sCourse) (defScope sCourse) .none kV10 dc10 pm10 an10 cd10 ct10), sl10⟩)
    (c10 : PySem.W.codeIn K cd10 "Follower.course_of" = true)
    (k10 : PySem.W.keepIn K (.ref f10) = true)
    (a11 : PySem.W.nsIn K mainGlobals "courses" = some (some (.ref f11)))
    (l11 : K.lookup f11 = some ⟨oc11, od11, .func (PySem.W.fnOf "courses" "courses" (defArgs sCourses) (defBody sCourses) (defScope sCourses) .none kV11 dc11 pm11 an11 cd11 ct11), sl11⟩)
    (c11 : PySem.W.codeIn K cd11 "courses" = true)
    (k11 : PySem.W.keepIn K (.ref f11) = true)
    (a12 : PySem.W.nsIn K mainGlobals "drained" = some (some (.ref f12)))
    (l12 : K.lookup f12 = some ⟨oc12, od12, .func (PySem.W.fnOf "drained" "drained" (defArgs sDrained) (defBody sDrained) (defScope sDrained) .none kV12 dc12 pm12 an12 cd12 ct12), sl12⟩)
    (c12 : PySem.W.codeIn K cd12 "drained" = true)
    (k12 : PySem.W.keepIn K (.ref f12) = true)
    (a13 : PySem.W.nsIn K mainGlobals "busy_stretches" = some (some (.ref f13)))
    (l13 : K.lookup f13 = some ⟨oc13, od13, .func (PySem.W.fnOf "busy_stretches" "busy_stretches" (defArgs sBusy) (defBody sBusy) (defScope sBusy) .none kV13 dc13 pm13 an13 cd13 ct13), sl13⟩)
    (c13 : PySem.W.codeIn K cd13 "busy_stretches" = true)
    (k13 : PySem.W.keepIn K (.ref f13) = true)
    (a14 : PySem.W.nsIn K mainGlobals "sums" = some (some (.ref f14)))
    (l14 : K.lookup f14 = some ⟨oc14, od14, .func (PySem.W.fnOf "sums" "sums" (defArgs sSums) (defBody sSums) (defScope sSums) .none kV14 dc14 pm14 an14 cd14 ct14), sl14⟩)
    (c14 : PySem.W.codeIn K cd14 "sums" = true)
    (k14 : PySem.W.keepIn K (.ref f14) = true)
    (a15 : PySem.W.nsIn K mainGlobals "_law_feed" = some (some (.ref f15)))
    (l15 : K.lookup f15 = some ⟨oc15, od15, .func (PySem.W.fnOf "_law_feed" "_law_feed" (defArgs sFeed) (defBody sFeed) (defScope sFeed) .none kV15 dc15 pm15 an15 cd15 ct15), sl15⟩)
    (c15 : PySem.W.codeIn K cd15 "_law_feed" = true)
    (k15 : PySem.W.keepIn K (.ref f15) = true)
    (a16 : PySem.W.nsIn K mainGlobals "_law_next" = some (some (.ref f16)))
    (l16 : K.lookup f16 = some ⟨oc16, od16, .func (PySem.W.fnOf "_law_next" "_law_next" (defArgs sNext) (defBody sNext) (defScope sNext) .none kV16 dc16 pm16 an16 cd16 ct16), sl16⟩)
    (c16 : PySem.W.codeIn K cd16 "_law_next" = true)
    (k16 : PySem.W.keepIn K (.ref f16) = true)
    (a17 : PySem.W.nsIn K mainGlobals "_law_rule" = some (some (.ref f17)))
    (l17 : K.lookup f17 = some ⟨oc17, od17, .func (PySem.W.fnOf "_law_rule" "_law_rule" (defArgs sRule) (defBody sRule) (defScope sRule) .none kV17 dc17 pm17 an17 cd17 ct17), sl17⟩)
    (c17 : PySem.W.codeIn K cd17 "_law_rule" = true)
    (k17 : PySem.W.keepIn K (.ref f17) = true)
    (a18 : PySem.W.nsIn K mainGlobals "_law_house" = some (some (.ref f18)))
    (l18 : K.lookup f18 = some ⟨oc18, od18, .func (PySem.W.fnOf "_law_house" "_law_house" (defArgs sHouse) (defBody sHouse) (defScope sHouse) .none kV18 dc18 pm18 an18 cd18 ct18), sl18⟩)
    (c18 : PySem.W.codeIn K cd18 "_law_house" = true)
    (k18 : PySem.W.keepIn K (.ref f18) = true)
    (a19 : PySem.W.nsIn K mainGlobals "_law_way" = some (some (.ref f19)))
    (l19 : K.lookup f19 = some ⟨oc19, od19, .func (PySem.W.fnOf "_law_way" "_law_way" (defArgs sWay) (defBody sWay) (defScope sWay) .none kV19 dc19 pm19 an19 cd19 ct19), sl19⟩)
    (c19 : PySem.W.codeIn K cd19 "_law_way" = true)
    (k19 : PySem.W.keepIn K (.ref f19) = true)
    (a20 : PySem.W.nsIn K mainGlobals "_law_light_way" = some (some (.ref f20)))
    (l20 : K.lookup f20 = some ⟨oc20, od20, .func (PySem.W.fnOf "_law_light_way" "_law_light_way" (defArgs sLight) (defBody sLight) (defScope sLight) .none kV20 dc20 pm20 an20 cd20 ct20), sl20⟩)
    (c20 : PySem.W.codeIn K cd20 "_law_light_way" = true)
    (k20 : PySem.W.keepIn K (.ref f20) = true)
    (a21 : PySem.W.nsIn K mainGlobals "_law_both_right" = some (some (.ref f21)))
    (l21 : K.lookup f21 = some ⟨oc21, od21, .func (PySem.W.fnOf "_law_both_right" "_law_both_right" (defArgs sBoth) (defBody sBoth) (defScope sBoth) .none kV21 dc21 pm21 an21 cd21 ct21), sl21⟩)
    (c21 : PySem.W.codeIn K cd21 "_law_both_right" = true)
    (k21 : PySem.W.keepIn K (.ref f21) = true)
    (a22 : PySem.W.nsIn K mainGlobals "law" = some (some (.ref f22)))
    (l22 : K.lookup f22 = some ⟨oc22, od22, .func (PySem.W.fnOf "law" "law" (defArgs sLaw) (defBody sLaw) (defScope sLaw) .none kV22 dc22 pm22 an22 cd22 ct22), sl22⟩)
    (c22 : PySem.W.codeIn K cd22 "law" = true)
    (k22 : PySem.W.keepIn K (.ref f22) = true)
    (pg : PySem.W.plainGet K C Str.empty = true)
    (hd : PySem.W.hasDictIn K C = true)
    (po : PySem.W.plainOver K C = true)
    (sa : PySem.W.findIn K (.ref C) "__setattr__" = some (some (.builtin "object.__setattr__")))
    (mk : PySem.W.makesIn K C = true)
    (kc : PySem.W.keepIn K (.ref C) = true)
    (nh : PySem.W.findIn K (.ref C) "follow_house" = some none)
    (ns : PySem.W.findIn K (.ref C) "follow_stand" = some none)
    (nn : PySem.W.findIn K (.ref C) "follow_names" = some none)
    (nr : PySem.W.findIn K (.ref C) "follow_rows" = some none)
    (nm : PySem.W.findIn K (.ref C) "follow_moment" = some none)
    (z_len : PySem.W.nsIn K mainGlobals "len" = some none)
    (z_list : PySem.W.nsIn K mainGlobals "list" = some none)
    (z_tuple : PySem.W.nsIn K mainGlobals "tuple" = some none)
    (z_sorted : PySem.W.nsIn K mainGlobals "sorted" = some none)
    (z_range : PySem.W.nsIn K mainGlobals "range" = some none)
    (z_enumerate : PySem.W.nsIn K mainGlobals "enumerate" = some none)
    (z_int : PySem.W.nsIn K mainGlobals "int" = some none)
    (z_sum : PySem.W.nsIn K mainGlobals "sum" = some none)
    (z_max : PySem.W.nsIn K mainGlobals "max" = some none)
    (z_repr : PySem.W.nsIn K mainGlobals "repr" = some none)
    : ∃ fd : FuncData, (∀ (s : Shared) (v : Value), BindsTo s fd ⟨[v], []⟩ [("_law_script", v)]) ∧ ∀ base : Heap, K.In base → base.Ns mainGlobals mg → HwD.FnG l.prog w K mg base 8 fa fd ["_law_script"] (spLaw K) := by
  have e := hfa.symm.trans (PySem.W.mg_of X G a22)
  cases e
  have T : Blt mg := ⟨PySem.W.mg_none_of X G z_len, PySem.W.mg_none_of X G z_list, PySem.W.mg_none_of X G z_tuple, PySem.W.mg_none_of X G z_sorted, PySem.W.mg_none_of X G z_range, PySem.W.mg_none_of X G z_enumerate, PySem.W.mg_none_of X G z_int, PySem.W.mg_none_of X G z_sum, PySem.W.mg_none_of X G z_max, PySem.W.mg_none_of X G z_repr⟩
  have cl : Cls K C := ⟨pg, hd, po, sa⟩
  have TF : TxtF K mg C := ⟨cl, nh, ns, nn, nr, nm, PySem.W.mg_of X G aC⟩
  have mK : mg "KEEPING" = some (.ref aK) := PySem.W.mg_of X G aK0
  have hK : SqT K (fun _ => none) aK keepV := .inr ⟨_, itsK, nK, lK0, rfl, rfl, by
    have z := vK0.length
    have z4 : itsK.toList.length = 4 := z.symm
    rw [Array.length_toList] at z4
    rw [z4]
    decide, vK0⟩
  have F1 := fun_mk (st := sKeeps) l1 c1 k1
  have b1 := F1.binds (ps := ["rule"]) fun _ _ _ _ _ _ us hl => match us, hl with | [_], _ => rfl
  have F2 := fun_mk (st := sLetIn) l2 c2 k2
  have b2 := F2.binds (ps := ["house", "stand", "beat"]) fun _ _ _ _ _ _ us hl => match us, hl with | [_, _, _], _ => rfl
  have F3 := fun_mk (st := sTurnOf) l3 c3 k3
  have b3 := F3.binds (ps := ["rule", "stand", "place"]) fun _ _ _ _ _ _ us hl => match us, hl with | [_, _, _], _ => rfl
  have F4 := fun_mk (st := sPicked) l4 c4 k4
  have b4 := F4.binds (ps := ["house", "stand"]) fun _ _ _ _ _ _ us hl => match us, hl with | [_, _], _ => rfl
  have F5 := fun_mk (st := sStep) l5 c5 k5
  have b5 := F5.binds (ps := ["house", "stand", "beat"]) fun _ _ _ _ _ _ us hl => match us, hl with | [_, _, _], _ => rfl
  have F6 := fun_mk (st := sRun) l6 c6 k6
  have b6 := F6.binds (ps := ["house", "way", "stand"]) fun _ _ _ _ _ _ us hl => match us, hl with | [_, _, _], _ => rfl
  have F7 := fun_mk (st := sNames) l7 c7 k7
  have b7 := F7.binds (ps := ["rule", "names", "places", "gone"]) fun _ _ _ _ _ _ us hl => match us, hl with | [_, _, _, _], _ => rfl
  have F8 := fun_mk (st := sInit) l8 c8 k8
  have b8 := F8.binds (ps := ["self", "house"]) fun _ _ _ _ _ _ us hl => match us, hl with | [_, _], _ => rfl
  have F9 := fun_mk (st := sTake) l9 c9 k9
  have b9 := F9.binds (ps := ["self", "comers"]) fun _ _ _ _ _ _ us hl => match us, hl with | [_, _], _ => rfl
  have F10 := fun_mk (st := sCourse) l10 c10 k10
  have b10 := F10.binds (ps := ["self", "number"]) fun _ _ _ _ _ _ us hl => match us, hl with | [_, _], _ => rfl
  have F11 := fun_mk (st := sCourses) l11 c11 k11
  have b11 := F11.binds (ps := ["house", "way"]) fun _ _ _ _ _ _ us hl => match us, hl with | [_, _], _ => rfl
  have F12 := fun_mk (st := sDrained) l12 c12 k12
  have b12 := F12.binds (ps := ["house", "way"]) fun _ _ _ _ _ _ us hl => match us, hl with | [_, _], _ => rfl
  have F13 := fun_mk (st := sBusy) l13 c13 k13
  have b13 := F13.binds (ps := ["house", "way"]) fun _ _ _ _ _ _ us hl => match us, hl with | [_, _], _ => rfl
  have F14 := fun_mk (st := sSums) l14 c14 k14
  have b14 := F14.binds (ps := ["house", "way", "begin", "end"]) fun _ _ _ _ _ _ us hl => match us, hl with | [_, _, _, _], _ => rfl
  have F15 := fun_mk (st := sFeed) l15 c15 k15
  have b15 := F15.binds (ps := ["_law_script"]) fun _ _ _ _ _ _ us hl => match us, hl with | [_], _ => rfl
  have F16 := fun_mk (st := sNext) l16 c16 k16
  have b16 := F16.binds (ps := ["_law_feed_here", "_law_many"]) fun _ _ _ _ _ _ us hl => match us, hl with | [_, _], _ => rfl
  have F17 := fun_mk (st := sRule) l17 c17 k17
  have b17 := F17.binds (ps := ["_law_feed_here"]) fun _ _ _ _ _ _ us hl => match us, hl with | [_], _ => rfl
  have F18 := fun_mk (st := sHouse) l18 c18 k18
  have b18 := F18.binds (ps := ["_law_feed_here"]) fun _ _ _ _ _ _ us hl => match us, hl with | [_], _ => rfl
  have F19 := fun_mk (st := sWay) l19 c19 k19
  have b19 := F19.binds (ps := ["_law_feed_here", "_law_beats", "_law_works"]) fun _ _ _ _ _ _ us hl => match us, hl with | [_, _, _], _ => rfl
  have F20 := fun_mk (st := sLight) l20 c20 k20
  have b20 := F20.binds (ps := ["_law_feed_here"]) fun _ _ _ _ _ _ us hl => match us, hl with | [_], _ => rfl
  have F21 := fun_mk (st := sBoth) l21 c21 k21
  have b21 := F21.binds (ps := ["_law_house_here", "_law_way_here", "_law_told", "_law_counts", "_law_begin", "_law_end", "_law_is_asked"]) fun _ _ _ _ _ _ us hl => match us, hl with | [_, _, _, _, _, _, _], _ => rfl
  have F22 := fun_mk (st := sLaw) l22 c22 k22
  refine ⟨PySem.W.fnOf "law" "law" (defArgs sLaw) (defBody sLaw) (defScope sLaw) .none kV22 dc22 pm22 an22 cd22 ct22, fun s v => .of_eq rfl, fun base _ _ => ?_⟩
  have H1 : Has l.prog w K mg base "keeps" 1 ["rule"] spKeeps := ⟨⟨_, _, ok_keeps F1 mK hK, PySem.W.mg_of X G a1, k1, b1⟩⟩
  have H2 : Has l.prog w K mg base "let_in" 1 ["house", "stand", "beat"] spLetIn := ⟨⟨_, _, ok_letIn F2 T, PySem.W.mg_of X G a2, k2, b2⟩⟩
  have H3 : Has l.prog w K mg base "turn_of" 1 ["rule", "stand", "place"] spTurn := ⟨⟨_, _, ok_turnOf F3 T, PySem.W.mg_of X G a3, k3, b3⟩⟩
  have H4 : Has l.prog w K mg base "picked" 2 ["house", "stand"] spPicked := ⟨⟨_, _, ok_picked F4 T H3, PySem.W.mg_of X G a4, k4, b4⟩⟩
  have H5 : Has l.prog w K mg base "step" 3 ["house", "stand", "beat"] spStep := ⟨⟨_, _, ok_step F5 T H2 H4 H1, PySem.W.mg_of X G a5, k5, b5⟩⟩
  have H6 : Has l.prog w K mg base "run" 4 ["house", "way", "stand"] spRun := ⟨⟨_, _, ok_run F6 T H5, PySem.W.mg_of X G a6, k6, b6⟩⟩
  have H7 : Has l.prog w K mg base "names_behind" 1 ["rule", "names", "places", "gone"] spNames := ⟨⟨_, _, ok_names F7 T, PySem.W.mg_of X G a7, k7, b7⟩⟩
  have H8 : HasI l.prog w K mg base "Follower" C 1 ["self", "house"] (spInit C) := ⟨⟨_, _, ok_init F8 TF, ⟨mk, a8, i8, kc⟩, b8⟩, PySem.W.mg_of X G aC⟩
  have H9 : HasM l.prog w K mg base C "take_beat" 4 ["self", "comers"] (spTake C) := ⟨⟨_, _, ok_take F9 T TF H2 H4 H5 H7, ⟨a9, i9, k9⟩, b9⟩, cl⟩
  have H10 : HasM l.prog w K mg base C "course_of" 1 ["self", "number"] (spCourse C) := ⟨⟨_, _, ok_course F10 TF, ⟨a10, i10, k10⟩, b10⟩, cl⟩
  have H11 : Has l.prog w K mg base "courses" 5 ["house", "way"] spCourses := ⟨⟨_, _, ok_courses F11 T TF H8 H9 H10, PySem.W.mg_of X G a11, k11, b11⟩⟩
  have H12 : Has l.prog w K mg base "drained" 5 ["house", "way"] spDrained := ⟨⟨_, _, ok_drained F12 T H5 H6, PySem.W.mg_of X G a12, k12, b12⟩⟩
  have H13 : Has l.prog w K mg base "busy_stretches" 5 ["house", "way"] spBusy := ⟨⟨_, _, ok_busy F13 T H6, PySem.W.mg_of X G a13, k13, b13⟩⟩
  have H14 : Has l.prog w K mg base "sums" 6 ["house", "way", "begin", "end"] spSums := ⟨⟨_, _, ok_sums F14 T H6 H11 H2 H4, PySem.W.mg_of X G a14, k14, b14⟩⟩
  have H15 : Has l.prog w K mg base "_law_feed" 1 ["_law_script"] (spFeed K) := ⟨⟨_, _, ok_feed F15 T, PySem.W.mg_of X G a15, k15, b15⟩⟩
  have H16 : Has l.prog w K mg base "_law_next" 1 ["_law_feed_here", "_law_many"] spNext := ⟨⟨_, _, ok_next F16 T, PySem.W.mg_of X G a16, k16, b16⟩⟩
  have H17 : Has l.prog w K mg base "_law_rule" 2 ["_law_feed_here"] spRule := ⟨⟨_, _, ok_rule F17 T H16, PySem.W.mg_of X G a17, k17, b17⟩⟩
  have H18 : Has l.prog w K mg base "_law_house" 3 ["_law_feed_here"] spHouse := ⟨⟨_, _, ok_house F18 T H16 H17, PySem.W.mg_of X G a18, k18, b18⟩⟩
  have H19 : Has l.prog w K mg base "_law_way" 2 ["_law_feed_here", "_law_beats", "_law_works"] spWay := ⟨⟨_, _, ok_way F19 T H16, PySem.W.mg_of X G a19, k19, b19⟩⟩
  have H20 : Has l.prog w K mg base "_law_light_way" 3 ["_law_feed_here"] spLight := ⟨⟨_, _, ok_light F20 T H16 H19, PySem.W.mg_of X G a20, k20, b20⟩⟩
  have H21 : HasG l.prog w K mg base "_law_both_right" 7 ["_law_house_here", "_law_way_here", "_law_told", "_law_counts", "_law_begin", "_law_end", "_law_is_asked"] spBoth := ⟨⟨_, _, ok_both F21 T H14, PySem.W.mg_of X G a21, k21, b21⟩⟩
  exact ok_law F22 T ⟨H15, H16, H18, H20, H12, H11, H6, H13, H21⟩
theorem walk {l : PySem.W.OpenLaw} {q : Program} {loose : List Str} {XP : (Str → Option Value) → Heap → Prop} {YP : World → Heap → Prop} {d : DefRec} {K : Params → PySem.W.Frag} (hn : l.most = some 63) (hdf : d.params.defaults = [])
    (hY : ∀ (w : World) (h : Heap), YP w h → (K w.params).In h)
    (F : ∀ (w : World) (mg : Str → Option Value) (fa : Addr) (h : Heap), (K w.params).In h → h.Ns mainGlobals mg → mg d.name = some (.ref fa) →
      ∃ fd : FuncData, (∀ (s : Shared) (u : Value), BindsTo s fd ⟨[u], []⟩ [("_law_script", u)]) ∧ ∀ base : Heap, (K w.params).In base → base.Ns mainGlobals mg → HwD.FnG l.prog w (K w.params) mg base 8 fa fd ["_law_script"] (spLaw (K w.params))) :
    PySem.W.WalkO q loose XP YP l.row.toRowW d [] (fun f vs => PySem.call f vs) :=
  HwD.walk_ofG (n := 63) (k := 8) (x := "_law_script") (sp := fun K => spLaw K) hn (by decide) hdf ⟨rfl, by decide, by decide⟩ hY F fun _ _ a ns _ _ hS => ⟨a, ns, rfl, hS, fun _ => rfl⟩
end Hw

open PySem PySem.W PyProof.Rows in
set_option maxRecDepth 100000 in
set_option maxHeartbeats 0 in
theorem PySem.Challenge.cw_hatchwaits_k24_whole_stays_are_numbers_i_holds : PySem.Challenge.rw_hatchwaits_k24_whole_stays_are_numbers_i.Holds := by
  w_on; o_law; k_head; (case hw => w_witness2)
  k_fill
  refine Hw.walk (l := PySem.Challenge.rw_hatchwaits_k24_whole_stays_are_numbers_i) rfl rfl (fun w h Y => PySem.W.kIn_of Y) ?F
  case F =>
    intro w mg fa h KX G hmg
    refine' Hw.all_mk KX G hmg ?aK0 ?lK0 ?vK0 ?aC ?a1 ?l1 ?c1 ?k1 ?a2 ?l2 ?c2 ?k2 ?a3 ?l3 ?c3 ?k3 ?a4 ?l4 ?c4 ?k4 ?a5 ?l5 ?c5 ?k5 ?a6 ?l6 ?c6 ?k6 ?a7 ?l7 ?c7 ?k7 ?a8 ?i8 ?l8 ?c8 ?k8 ?a9 ?i9 ?l9 ?c9 ?k9 ?a10 ?i10 ?l10 ?c10 ?k10 ?a11 ?l11 ?c11 ?k11 ?a12 ?l12 ?c12 ?k12 ?a13 ?l13 ?c13 ?k13 ?a14 ?l14 ?c14 ?k14 ?a15 ?l15 ?c15 ?k15 ?a16 ?l16 ?c16 ?k16 ?a17 ?l17 ?c17 ?k17 ?a18 ?l18 ?c18 ?k18 ?a19 ?l19 ?c19 ?k19 ?a20 ?l20 ?c20 ?k20 ?a21 ?l21 ?c21 ?k21 ?a22 ?l22 ?c22 ?k22 ?pg ?hd ?po ?sa ?mk ?kc ?nh ?ns ?nn ?nr ?nm ?z_len ?z_list ?z_tuple ?z_sorted ?z_range ?z_enumerate ?z_int ?z_sum ?z_max ?z_repr
    (case aK0 => k_is)
    (case lK0 => k_is)
    (case vK0 => exact .cons ⟨_, rfl⟩ (.cons ⟨_, rfl⟩ (.cons ⟨_, rfl⟩ (.cons ⟨_, rfl⟩ .nil))))
    (case aC => k_is)
    (case a1 => k_is)
    (case l1 => k_is)
    (case c1 => k_is)
    (case k1 => k_is)
    (case a2 => k_is)
    (case l2 => k_is)
    (case c2 => k_is)
    (case k2 => k_is)
    (case a3 => k_is)
    (case l3 => k_is)
    (case c3 => k_is)
    (case k3 => k_is)
    (case a4 => k_is)
    (case l4 => k_is)
    (case c4 => k_is)
    (case k4 => k_is)
    (case a5 => k_is)
    (case l5 => k_is)
    (case c5 => k_is)
    (case k5 => k_is)
    (case a6 => k_is)
    (case l6 => k_is)
    (case c6 => k_is)
    (case k6 => k_is)
    (case a7 => k_is)
    (case l7 => k_is)
    (case c7 => k_is)
    (case k7 => k_is)
    (case a8 => k_is)
    (case i8 => k_is)
    (case l8 => k_is)
    (case c8 => k_is)
    (case k8 => k_is)
    (case a9 => k_is)
    (case i9 => k_is)
    (case l9 => k_is)
    (case c9 => k_is)
    (case k9 => k_is)
    (case a10 => k_is)
    (case i10 => k_is)
    (case l10 => k_is)
    (case c10 => k_is)
    (case k10 => k_is)
    (case a11 => k_is)
    (case l11 => k_is)
    (case c11 => k_is)
    (case k11 => k_is)
    (case a12 => k_is)
    (case l12 => k_is)
    (case c12 => k_is)
    (case k12 => k_is)
    (case a13 => k_is)
    (case l13 => k_is)
    (case c13 => k_is)
    (case k13 => k_is)
    (case a14 => k_is)
    (case l14 => k_is)
    (case c14 => k_is)
    (case k14 => k_is)
    (case a15 => k_is)
    (case l15 => k_is)
    (case c15 => k_is)
    (case k15 => k_is)
    (case a16 => k_is)
    (case l16 => k_is)
    (case c16 => k_is)
    (case k16 => k_is)
    (case a17 => k_is)
    (case l17 => k_is)
    (case c17 => k_is)
    (case k17 => k_is)
    (case a18 => k_is)
    (case l18 => k_is)
    (case c18 => k_is)
    (case k18 => k_is)
    (case a19 => k_is)
    (case l19 => k_is)
    (case c19 => k_is)
    (case k19 => k_is)
    (case a20 => k_is)
    (case l20 => k_is)
    (case c20 => k_is)
    (case k20 => k_is)
    (case a21 => k_is)
    (case l21 => k_is)
    (case c21 => k_is)
    (case k21 => k_is)
    (case a22 => k_is)
    (case l22 => k_is)
    (case c22 => k_is)
    (case k22 => k_is)
    (case pg => k_is)
    (case hd => k_is)
    (case po => k_is)
    (case sa => k_is)
    (case mk => k_is)
    (case kc => k_is)
    (case nh => k_is)
    (case ns => k_is)
    (case nn => k_is)
    (case nr => k_is)
    (case nm => k_is)
    (case z_len => k_is)
    (case z_list => k_is)
    (case z_tuple => k_is)
    (case z_sorted => k_is)
    (case z_range => k_is)
    (case z_enumerate => k_is)
    (case z_int => k_is)
    (case z_sum => k_is)
    (case z_max => k_is)
    (case z_repr => k_is)
