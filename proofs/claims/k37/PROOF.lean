import PyProof.Rows.All
import Wide.All
import OpenK.AllK
import Wide.FinOn
import HandS.Iter
import KE.GoesEnum
import HandS.TupMul
import PyProof.ListMulRight
import HandS.TupAny
import HandS.Style
import HandS.ForMost
import HandS.ForExc
import HandS.Deep
import HandS.Conv
import HandS.Zip
import HandS.IsInst
import HandS.Flow
import HandS.SortRule
import HandS.Wide
import HandS.Base
import HandS.Call
import HandS.List
import PyProof.EqKinds
import PyProof.FactsAll.dict
import PyProof.FactsAll.tuple
import HandS.Dict
import HandS.SortInts
import KE.KSortTupAny
import HandS.SetFor
import HandS.Strs
import HandS.OwnEq
import HandS.ExcIs
import HandS.HeadHook4
import HandS.More
import PyProof.InstNe
import PyProof.ReprRoads
import HandS.TryMany
import HandS.Defaults
import KE.KStateDown
import HandS.Head0
import HandS.Head1
import HandS.Head2
import HandS.HeadEnd
import HandS.HeadHook1
import HandS.HeadHook2
import PySem.Challenge.RW_bymiddles_k37_whole_throws_by_all_threes
set_option Elab.async false
set_option linter.all false
set_option maxRecDepth 100000
set_option autoImplicit false
noncomputable section

section
set_option maxHeartbeats 1000000
/-! DvAb: enumerate of a tuple, walked. -/
namespace Dv
open PySem PySem.Spec PyProof.Rows L2
/-- what enumerate(v) lays -/
theorem enumNew1 {v : Value} {o : Obj} {Hh : Heap → Prop} (B : Begins v o Hh) :
    Meets (Builtin.«enumerate.__new__» ⟨[.type "enumerate", v], []⟩) fun _ R s => Hh s.heap ∧
      R (.ok (.ret (.ref (s.heap.push o).objs.size))) { s with heap := (s.heap.push o).push ⟨.type "enumerate", none, .fields #[.none, .bool false, .ref s.heap.objs.size, rawInt 0, .none, .none], #[]⟩ } :=
  .of_wp fun P w A R s ⟨hh, h⟩ => by
    obtain ⟨hp, g, d, tk, os⟩ := s
    have sb := sub_enumerate
    have it : ∀ {A' : Around} {E Q : Value → Shared → Prop}, Q (.ref hp.objs.size) ⟨hp.push o, g, d, tk, os⟩ → wpAny (model P w) A' (pyIter v) Q E ⟨hp, g, d, tk, os⟩ :=
      fun q => B.iter P w _ _ ⟨hp, g, d, tk, os⟩ _ hh q
    wp_walk using it
    refine wpAny_stack_any fun st => wpAny_pure ?_
    split
    · rename_i c _ _ _ _ _
      cases (c == Value.type "enumerate") <;> (wp_walk using it; exact ⟨_, rfl, h⟩)
    · wp_walk using it
      exact ⟨_, rfl, h⟩
theorem enumCall1 {P : Program} {w : World} {A : Around} {E Q : Value → Shared → Prop} {s : Shared} {v : Value} {o : Obj} {Hh : Heap → Prop} (B : Begins v o Hh) (hh : Hh s.heap)
    (h : ∀ h', IsEnum h' (s.heap.objs.size + 1) s.heap.objs.size 0 .none → h'.get? s.heap.objs.size = some o →
      (∀ b u, s.heap.get? b = some u → h'.get? b = some u) → Q (.ref (s.heap.objs.size + 1)) { s with heap := h' }) : wpAny (model P w) A (call (.type "enumerate") [v]) Q E s := by
  refine callType_new F.called_enumerate (by decide) (F.typeCall_enumerate_1 _) (F.newCall_enumerate_1 _) (fun z => F.args_object_init_2 z _) F.entry_enumerate_new (enumNew1 B) ⟨hh, ?_⟩
  have sz : (s.heap.push o).objs.size = s.heap.objs.size + 1 := Heap.size_push ..
  have he : IsEnum ((s.heap.push o).push ⟨.type "enumerate", none, .fields #[.none, .bool false, .ref s.heap.objs.size, rawInt 0, .none, .none], #[]⟩) (s.heap.objs.size + 1) s.heap.objs.size 0 .none := by
    have q := Heap.get?_push_size (s.heap.push o) (o := ⟨.type "enumerate", none, .fields #[.none, .bool false, .ref s.heap.objs.size, rawInt 0, .none, .none], #[]⟩) rfl
    rw [sz] at q; exact q
  rw [sz]
  exact ⟨⟨_, he, rfl⟩, h _ he (Heap.get?_push_of_some _ (Heap.get?_push_size _ B.free)) fun b u x => Heap.get?_push_of_some _ (Heap.get?_push_of_some _ x)⟩
theorem enumEnd {P : Program} {w : World} {A : Around} {E : Value → Shared → Prop} {Q : Option Value → Shared → Prop} {s : Shared} {e it t : Addr} {i : Nat} {k : Int} {items : Array Value} {old : Value} (hh : A.handled = none)
    (he : IsEnum s.heap e it k old) (hit : s.heap.IsTupleIter it t i) (ht : s.heap.IsTuple t items) (hx : items[i]? = none)
    (hQ : ∀ h', Heap.ExtBut it s.heap h' → Q none { s with heap := h' }) : wpAny (model P w) A (pyNext (.ref e)) Q E s := by
  have hT : s.TypeIs (.ref e) "enumerate" := ⟨_, he, rfl⟩
  unfold pyNext
  refine wpAny_bind (wpAny_attempt (wpAny_callSpecial?_slot (name := Str.ofString "__next__") hT F.slot_enumerate_next (wpAny_call_entry F.slot_enumerate_next hT F.entry_enumerate_next ?_ (F.args_enumerate_next_1 _))))
  show wpAny _ _ (do let z ← field (.ref e) 2; _) _ _ _
  refine wpAny_bind (wpAny_field he rfl (x := .ref it) rfl ?_)
  refine wpAny_bind (wpAny_nextOf_tuple_end (A := A.in1) hh hit ht hx fun h' x he' hx' => ?_)
  obtain ⟨o, ho, hc⟩ := hx'
  exact wpAny_bind (wpAny_isInstance (T := "StopIteration") (b := true) ⟨o, ho, hc⟩ isSubtype_stop (wpAny_pure (hQ _ he')))
/-- the tuple at a, each item in a new pair with its place -/
def IteT (K : PySem.W.Frag) (a : Addr) : It where
  go := fun i H => ∃ (xs : List V) (x : V), SqT K H a xs ∧ xs[i]? = some x
  yld := fun i H v H' => ∃ T x, v = .ref T ∧ H T = none ∧ H' = upd H T (.tup [.int (i : Nat), x]) ∧ ∀ xs, SqT K H a xs → xs[i]? = some x
  stop := fun i H => ∃ xs : List V, SqT K H a xs ∧ xs.length ≤ i
theorem turn_enumT {P : Program} {w : World} {K : PySem.W.Frag} {elts : List Expr} {kk : Nat} {tpos : Pos} {a e it : Addr} (ha : a ≠ it) (ha2 : a ≠ e) :
    Turn P w K (.Tuple elts kk tpos) (IteT K a) [e, it] e (fun i h => (∃ old, IsEnum h e it ((i : Nat) : Int) old) ∧ h.IsTupleIter it a i ∧ e ≠ it) where
  mem := by simp
  obj := fun i h st b hb => by
    obtain ⟨⟨old, he⟩, ⟨o, ho, hc, hd⟩, _⟩ := st
    rcases (show b = e ∨ b = it by simpa using hb) with z | z
    · subst z; exact ⟨_, he, fun v q => nomatch q⟩
    · subst z; exact ⟨o, ho, fun v q => by rw [hd] at q; cases q⟩
  keep := fun i h h' st k => by
    obtain ⟨⟨old, he⟩, hi, hne⟩ := st
    exact ⟨⟨old, k e (by simp) _ he⟩, hi.at fun o q => k it (by simp) o q, hne⟩
  item := by
    intro X hP hw hK hc i pins s σ H E I hf st hg
    subst hP hw hK
    obtain ⟨⟨old, he⟩, hit, hne⟩ := st
    obtain ⟨xs, x, hq, hx⟩ := hg
    obtain ⟨its, rv, p, hz⟩ := I.tuple hq
    obtain ⟨u, hu, ru⟩ := rv.get hx
    have el : e < s.heap.objs.size := Heap.lt_size he
    have il : it < s.heap.objs.size := by obtain ⟨_, q, _⟩ := hit; exact Heap.lt_size q
    have hil : i < its.toArray.size := by
      have := (List.getElem?_eq_some_iff.mp hu).1
      simpa using this
    refine wpAny_pyNext_enum_itemC (Draws.tuple (A := X.A.in1) (I.ok.hd hc) it a ha its.toArray) he ⟨hit, show s.heap.IsTuple a its.toArray from p⟩ hil hne (fun m => ?_) fun y h' tk hy ho hst hT hsz hk => ?_
    · rcases (show e = it ∨ e = a by simpa using m) with z | z
      · exact hne z
      · exact ha2 z.symm
    have hy : its.toArray[i]? = some y := hy
    obtain rfl : y = u := by
      have : its.toArray[i]? = some u := by simpa using hu
      rw [this] at hy; exact (Option.some.inj hy).symm
    refine ⟨_, rfl, wpAny_letOwnedTupleGo_enum (s := { s with heap := h', toks := tk + 1 }) ho fun h'' he' sb => ?_⟩
    have hT2 : h''.get? s.heap.objs.size = some { cls := .type "tuple", data := .seq #[.int i tk, y] } := (sb.2 _ (Nat.ne_of_gt el)).trans hT
    have new : ObjOk X.prog X.w (upd H s.heap.objs.size (.tup [.int (i : Nat), x])) h'' s.heap.objs.size (.tup [.int (i : Nat), x]) :=
      ⟨by show 2 ≤ sizeLine; decide, [.int i tk, y], .cons ⟨_, rfl⟩ (.cons ru .nil), ⟨_, hT2, rfl, _, rfl⟩⟩
    have I1 : Inv X pins σ (upd H s.heap.objs.size (.tup [.int (i : Nat), x])) { s with heap := h'', toks := tk + 1 } :=
      I.turnedNew (ch := [e, it]) (fun b u hb q => (sb.2 b (fun z => hb (by simp [z]))).trans (hk b u (fun z => hb (by simp [z])) (fun z => hb (by simp [z])) q)) hf (Nat.le_refl _) new
    refine ⟨.ref s.heap.objs.size, _, I1, rfl, ⟨_, x, rfl, I.hok.fresh (Nat.le_refl _), rfl, fun ys hy => by rw [I.tuple_inj hy hq]; exact hx⟩, ⟨⟨y, ?_⟩, hst.1.at fun o q => (sb.2 it (Ne.symm hne)).trans q, hne⟩, fun b hb => ?_⟩
    · have e1 : ((i + 1 : Nat) : Int) = (i : Int) + 1 := by omega
      rw [e1]; exact he'
    · have hb' : b < s.heap.objs.size := by
        rcases (show b = e ∨ b = it by simpa using hb) with z | z
        · subst z; exact el
        · subst z; exact il
      rw [upd_ne (Nat.ne_of_lt hb')]
      exact (hf b hb).1
  done := by
    intro X hP hw hK hc i pins s σ H E I hf st hg
    subst hP hw hK
    obtain ⟨⟨old, he⟩, hit, hne⟩ := st
    obtain ⟨xs, hq, hx⟩ := hg
    obtain ⟨its, rv, p, hz⟩ := I.tuple hq
    obtain ⟨f0, f1, f2, f3, f4, f5⟩ := hf it (by simp)
    have hl := rv.length
    refine enumEnd (I.ok.hd hc) he hit (show s.heap.IsTuple a its.toArray from p) (by simp; omega) fun h' eb => ⟨rfl, I.turned (t' := s.toks) (fun b o hb q => eb b o hb q) f0 f1 f3 f4 f5⟩
  self := fun A i s Q E st h => let ⟨⟨_, he⟩, _⟩ := st; wpAny_pyIter_enum he h
/-- enumerate(x), x a list or a tuple -/
def iEnumA (K : PySem.W.Frag) (ta : TA) : TI := fun σ H R => ta σ H fun vs H1 => ∃ a xs, vs = [.ref a] ∧ ((SqL K H1 a xs ∧ R (Ite K a) H1) ∨ (SqT K H1 a xs ∧ R (IteT K a) H1))
theorem pi_enumA {X : Cx} {e : Expr} {ta : TA} {p pos tpos : Pos} {elts : List Expr} {kk : Nat} (hg : Gl X "enumerate") (hm : X.mg "enumerate" = none) (ha : PA X [e] ta) (hs : starEach [e] X.env = [(false, eval e X.env)]) :
    PI X (.Tuple elts kk tpos) (.Call (.Name "enumerate" p) [e] [] pos) (iEnumA X.K ta) := by
  refine ⟨fun pins s σ H R I h => Call_ (ld_blt I hg hm boot_enumerate (PyProof.Rows.callWith_type1 (thn (ha.run pos pins s σ H _ I h) fun us s1 ⟨vs, H1, I1, r1, a, xs, ex, q⟩ => ?_) hs rfl))⟩
  subst ex
  cases r1 with
  | cons r rr =>
    cases rr
    cases r
    have hle : ∀ b, b ∈ [s1.heap.objs.size + 1, s1.heap.objs.size] → s1.heap.objs.size ≤ b := fun b hb => by
      rcases (show b = s1.heap.objs.size + 1 ∨ b = s1.heap.objs.size by simpa using hb) with z | z
      · rw [z]; exact Nat.le_add_right _ _
      · rw [z]; exact Nat.le_refl _
    have foot : ∀ b ∈ [s1.heap.objs.size + 1, s1.heap.objs.size], FpOk X pins H1 b := fun b hb => I1.fpOk (hle b hb) (I1.hok.fresh (hle b hb))
    rcases q with ⟨hq, q⟩ | ⟨hq, q⟩
    · obtain ⟨its, rv, p', hz⟩ := I1.list hq
      refine call_enumerate_list p'.isList fun h' he hit _ hk => wpAny_pyIter_enum he ?_
      exact ⟨s1.heap.objs.size + 1, _, _, _, H1, rfl, I1.kept (t' := s1.toks) hk, turn_enum a (s1.heap.objs.size + 1) s1.heap.objs.size, ⟨⟨.none, he⟩, hit, Nat.succ_ne_self _⟩, foot, q⟩
    · obtain ⟨its, rv, p', hz⟩ := I1.tuple hq
      obtain ⟨o, ho, _⟩ := id p'
      have hlt : a < s1.heap.objs.size := Heap.lt_size ho
      refine enumCall1 (begins_tuple a its.toArray) (show s1.heap.IsTuple a its.toArray from p') fun h' he hit hk => wpAny_pyIter_enum he ?_
      exact ⟨s1.heap.objs.size + 1, _, _, _, H1, rfl, I1.kept (t' := s1.toks) hk, turn_enumT (e := s1.heap.objs.size + 1) (it := s1.heap.objs.size) (Nat.ne_of_lt hlt) (Nat.ne_of_lt (Nat.lt_succ_of_lt hlt)), ⟨⟨.none, he⟩, ⟨_, hit, rfl, rfl⟩, Nat.succ_ne_self _⟩, foot, q⟩
end Dv
end
section
set_option maxHeartbeats 1000000
/-! DvAc: len(set(xs)) of ints, a tuple times one. -/
namespace Dv
open PySem PySem.Spec PyProof.Rows L2
/-- how many different ones -/
def distN (ns : List Int) : Nat := (PyProof.Rows.firstMet (fun i => ns.getD i 0) ns.length).length
theorem intsAre_of : ∀ {ns : List Int} {us : List Value}, Vals (ns.map V.int) us → PyProof.Rows.IntsAre us ns
  | [], _, .nil => .nil
  | n :: r, _, .cons ⟨k, e⟩ t => by
    subst e
    exact .cons n k (intsAre_of t)
def tLenSetA (K : PySem.W.Frag) (ta : TE) : TE := fun σ H Q => ta σ H fun x H1 => ∃ (l : Addr) (ns : List Int), x = .ref l ∧ SqL K H1 l (ns.map V.int) ∧ ns.length ≤ 4000 ∧ Q (.int (distN ns : Nat)) H1
theorem pe_lenSetA {X : Cx} {a : Expr} {ta : TE} {p p2 q pos : Pos} (hg : Gl X "len") (hm : X.mg "len" = none) (hg2 : Gl X "set") (hm2 : X.mg "set" = none) (ha : PE X a ta) (hc : X.calm = true)
    (na : starEach [a] X.env = (false, eval a X.env) :: starEach [] X.env) : PE X (.Call (.Name "len" p) [.Call (.Name "set" p2) [a] [] q] [] pos) (tLenSetA X.K ta) := by
  refine ⟨fun pins s σ H Q I h => Call_ (ld_blt I hg hm boot_len (PyProof.Rows.callWith_builtin1 (PyProof.Rows.args_cons ?_ rfl) rfl rfl))⟩
  refine Call_ (ld_blt I hg2 hm2 boot_set (PyProof.Rows.callWith_type1 (PyProof.Rows.args_cons (thn (ha.run pins s σ H _ I h) fun v s1 ⟨x, H1, I1, r1, q1⟩ => PyProof.Rows.args_nil ?_) na) na rfl))
  obtain ⟨l, ns, rfl, hq, hl, q1⟩ := q1
  cases r1
  obtain ⟨its, r, pl, hz⟩ := I1.list hq
  have hlen : its.toArray.size = ns.length := by rw [List.size_toArray, ← r.length, List.length_map]
  refine call_set_list (I1.ok.hd hc) pl.isList (by simpa using intsAre_of r) (by rw [hlen]; unfold scanBound; omega) fun h' tk hS hk => PyProof.Rows.args_nil ?_
  rw [hlen] at hS
  obtain ⟨o, es, ep, t, ho, hex, hd, _, _, _, hf, hn⟩ := hS
  have I2 : Inv X pins σ H1 { s1 with heap := h', toks := tk } := I1.kept fun b o e => hk b o (Heap.lt_size e) e
  have := PyProof.Rows.firstMet_length_le (fun i => ns.getD i 0) ns.length
  exact call_len_set ho hex hd hf (by rw [hn] <;> omega) ⟨.int (distN ns : Nat), H1, I2.tok _, ⟨_, by rw [hn]; rfl⟩, q1⟩
theorem tupOne (l : Addr) (items : Array Value) (n : Nat) (dd : Option Addr) (sl : Array (Option Value)) (u : Tok) :
    Meets (Builtin.«tuple.__mul__» ⟨[.ref l, .int 1 u], []⟩) fun _ R s => s.heap.get? l = some ⟨.type "tuple", dd, .seq items n, sl⟩ ∧ R (.ok (.ret (Value.ref l))) s :=
  .of_wp fun P w A R s ⟨hl, h⟩ => by
    obtain ⟨hp, g, d, tk, os⟩ := s
    have f1 := AutoSeq1.idx_int
    wp_walk using wpAny_loadPart' hl
    exact ⟨_, rfl, h⟩
def rRep1 (K : PySem.W.Frag) : R2 := fun x y H Q => ∃ l xs, x = .ref l ∧ y = .int 1 ∧ SqT K H l xs ∧ Q (.ref l) H
theorem op_rep1 {X : Cx} : OpR X (binaryOp .Mult) (rRep1 X.K) := by
  intro pins s σ H x y v u Q I rx ry ⟨l, xs, ex, ey, hT, q⟩
  subst ex ey
  cases rx
  obtain ⟨t, rfl⟩ := ry
  obtain ⟨its, r, ⟨⟨cls, dd, data, sl⟩, ho, hc, n, hd⟩, hs⟩ := I.tuple hT
  simp only at hc hd
  subst hc hd
  refine wpAny_binaryOp_repeat_ref (T := "tuple") (U := "int") (by decide) ⟨_, ho, rfl⟩ (fun s' => typeIs_int s' 1 t) noFill_tuple_mul F.fills_int_mul F.slot_int_rmul repeat_tuple F.slot_int_index.lookup ?_
  refine call_meets F.slot_int_rmul (typeIs_int s 1 t) F.entry_int_rmul (F.args_int_rmul_2 _ _) (int_rmul_tuple 1 t l its.toArray n dd sl) ⟨ho, rfl, ⟨_, ho, rfl⟩, ?_⟩
  exact call_meets F.slot_tuple_mul ⟨_, ho, rfl⟩ F.entry_tuple_mul (F.args_tuple_mul_2 _ _) (tupOne l its.toArray n dd sl t) ⟨ho, .ref l, H, I.tok _, rfl, q⟩
theorem int_mul_tuple (a : Int) (t : Tok) (l : Addr) (items : Array Value) (n : Nat) (dd : Option Addr) (sl : Array (Option Value)) :
    Meets (Builtin.«int.__mul__» ⟨[.int a t, .ref l], []⟩) (fun _ R s => s.heap.get? l = some { cls := .type "tuple", dict := dd, data := .seq items n, slots := sl } ∧ R (.ok (.ret Value.notImplemented)) s) :=
  .of_wp fun prog w A R s h => by obtain ⟨hp, g, d, tk, os⟩ := s; obtain ⟨hl, h⟩ := h; wp_walk using AutoSeq1.wpAny_loadPart' hl; exact ⟨_, rfl, h⟩
def rRepL (K : PySem.W.Frag) : R2 := fun x y H Q => rRepT K y x H Q
theorem op_repL {X : Cx} : OpR X (binaryOp .Mult) (rRepL X.K) := by
  intro pins s σ H x y v u Q I rx ry h
  obtain ⟨l, k, xs, rfl, rfl, hT, hne, h1, h2, hz, q⟩ := h
  cases ry
  obtain ⟨t, rfl⟩ := rx
  obtain ⟨its, r, ⟨⟨cls, dd, data, sl⟩, ho, hc, n, hd⟩, hs⟩ := I.tuple hT
  simp only at hc hd
  subst hc hd
  have hle : its.length = xs.length := r.length.symm
  have hn : its ≠ [] := fun e => hne (by
    rw [e] at hle
    exact List.eq_nil_of_length_eq_zero hle.symm)
  have hi : its.toArray.isEmpty = false := by
    cases its with
    | nil => exact absurd rfl hn
    | cons a b => rfl
  have hsz0 : its.toArray.size = xs.length := by rw [List.size_toArray, hle]
  have hm : ((its.toArray.size : Nat) : Int) * k ≤ 1000000 := by
    rw [hsz0]
    have a1 : ((xs.length : Nat) : Int) * k ≤ 1000 * k := Int.mul_le_mul_of_nonneg_right (by omega) (by omega)
    omega
  have flen : (List.replicate k.toNat its).flatten.length ≤ sizeLine := by
    rw [PyProof.Rows.lm_len_rep_flat, hle, sizeLine_eq]
    have a1 : k.toNat * xs.length ≤ 1000 * 1000 := Nat.mul_le_mul (by omega) hz
    omega
  have c0 : (decide (k < -(2 ^ 63)) || decide (k ≥ 2 ^ 63)) = false := by
    rw [decide_eq_false (by omega), decide_eq_false (by omega)] <;> rfl
  have c1 : (its.toArray.isEmpty || k == 1) = false := by
    rw [hi, Bool.false_or]
    exact beq_eq_false_iff_ne.mpr (by omega)
  have c2 : (decide (k ≤ 0) || its.toArray.isEmpty) = false := by
    rw [hi, Bool.or_false]
    exact decide_eq_false (by omega)
  have c4 : Builtin.Tuple.tupleTooMany (((its.toArray.size : Nat) : Int) * k) = false := by
    unfold Builtin.Tuple.tupleTooMany
    rw [sizeLine_eq]
    exact decide_eq_false (by omega)
  refine lm_binaryOp_repeat_right (T := "tuple") (U := "int") (by decide) (fun s' => typeIs_int s' k t) ⟨_, ho, rfl⟩ F.fills_int_mul noFill_tuple_mul F.slot_int_mul lm_noRepeat_int repeat_tuple F.slot_int_index.lookup
    (call_meets F.slot_int_mul (typeIs_int s k t) F.entry_int_mul (F.args_int_mul_2 _ _) (int_mul_tuple k t l its.toArray n dd sl)
      ⟨ho, rfl, ⟨_, ho, rfl⟩, call_meets F.slot_tuple_mul ⟨_, ho, rfl⟩ F.entry_tuple_mul (F.args_tuple_mul_2 _ _) (tuple_mulW l its.toArray n dd sl k t c0 c1 c2 (by omega) c4 (by rw [size_rep, List.size_toArray]; exact flen)) ⟨ho, ?_⟩⟩)
  rw [size_rep]
  refine ⟨.ref s.heap.objs.size, _, I.laid (t' := s.toks) (o := .tup (List.replicate k.toNat xs).flatten) (fun b ob q => Heap.get?_push_of_some _ q) (Nat.le_refl _) ?_, rfl, q _ (I.hok.fresh (Nat.le_refl _))⟩
  exact ⟨by rw [PyProof.Rows.lm_len_rep_flat, sizeLine_eq]; have a1 : k.toNat * xs.length ≤ 1000 * 1000 := Nat.mul_le_mul (by omega) hz; omega, _, r.rep k.toNat, IsTup.new _ _⟩
end Dv
end
section
set_option maxHeartbeats 4000000
/-! DvAd: x[::-1] of a list or a tuple. -/
namespace Dv
open PySem PySem.Spec PyProof.Rows L2
theorem fm_rev (f : Nat → Option Value) (g : Nat → Value) : ∀ l : List Nat, (∀ k ∈ l, f k = some (g k)) → l.filterMap f = l.map g
  | [], _ => rfl
  | k :: r, h => by
    rw [List.filterMap_cons, h k List.mem_cons_self, List.map_cons, fm_rev f g r fun j hj => h j (List.mem_cons_of_mem _ hj)]
theorem pick_rev (items : Array Value) : ((List.range items.size).filterMap fun (k : Nat) => items[(((items.size : Nat) : Int) - 1 + (k : Int) * -1).toNat]?) = items.toList.reverse := by
  rw [fm_rev _ (fun k => items.toList.reverse.getD k .none) _ fun k hk => ?_]
  · refine List.ext_getElem? fun i => ?_
    by_cases hi : i < items.size
    · have h3 : i < items.toList.reverse.length := by simpa using hi
      rw [List.getElem?_map, List.getElem?_range hi, List.getElem?_eq_getElem h3]
      show some (items.toList.reverse.getD i .none) = some _
      rw [List.getD_eq_getElem?_getD, List.getElem?_eq_getElem h3]
      rfl
    · rw [List.getElem?_eq_none (by simpa using hi), List.getElem?_eq_none (by simpa using hi)]
  · have hk := List.mem_range.mp hk
    have h1 : (((items.size : Nat) : Int) - 1 + (k : Int) * -1).toNat = items.size - 1 - k := by omega
    rw [h1]
    have h2 : items.size - 1 - k < items.size := by omega
    have h3 : k < items.toList.reverse.length := by simpa using hk
    rw [Array.getElem?_eq_getElem h2]
    show some _ = some _
    rw [List.getD_eq_getElem?_getD, List.getElem?_eq_getElem h3]
    simp
theorem adjRev (n : Nat) : Builtin.Slice.sliceAdjust none none (-1) (n : Int) = ((n : Int) - 1, -1) := rfl
theorem plRev (n : Nat) : Builtin.Slice.slicePlaces ((n : Int) - 1) (-1) (-1) = n := by
  unfold Builtin.Slice.slicePlaces
  rw [if_neg (by decide)]
  by_cases h : (n : Int) - 1 > -1
  · rw [if_pos h]
    have : ((n : Int) - 1 - -1 - 1) / (- -1) = (n : Int) - 1 := by
      rw [show (- -1 : Int) = 1 by decide, Int.ediv_one]; omega
    rw [this]; omega
  · rw [if_neg h]; omega
theorem getRevT {P : Program} {w : World} {A : Around} {E Q : Value → Shared → Prop} {s : Shared} {t sl : Addr} {items : Array Value} {vl vu vs : Value} (ht : IsTup s.heap t items) (hs : s.heap.IsSliceOf sl vl vu vs) (pl : IsPart vl none) (pu : IsPart vu none) (ps : IsPart vs (some (-1)))
    (h : Q (.ref s.heap.objs.size) { s with heap := s.heap.push ⟨.type "tuple", none, .seq items.toList.reverse.toArray, #[]⟩ }) (hsz : items.size ≤ sizeLine) : wpAny (model P w) A (getItem (.ref t) (.ref sl)) Q E s := by
  obtain ⟨os, hos, hcs, hds⟩ := id hs
  have ts : s.TypeIs (.ref sl) "slice" := ⟨os, hos, hcs⟩
  unfold getItem
  try with_reducible refine wpAny_holding ?_
  first | refine wpAny_bind (wpAny_pure ?_) | skip
  refine wpAny_bind (wpAny_sequenceKey ht.typeIs (by decide) (wpAny_bind (wpAny_callSpecial?_slot (name := Str.ofString "__getitem__") ht.typeIs PyProof.Rows.slot_tuple_getitem (wpAny_call_entry PyProof.Rows.slot_tuple_getitem ht.typeIs entry_tuple_getitem ?_ (args_tuple_getitem _ _)))))
  show wpAny _ _ (do let xs ← Builtin.Tuple.tupleItemsOf (.ref t); _) _ _ s
  refine wpAny_bind (tupleItemsOf_ ht (wpAny_bind (wpAny_typeOf ts ?_)))
  rw [if_pos (by decide)]
  refine wpAny_bind ?_
  unfold Builtin.Slice.sliceApplied Builtin.Slice.sliceFields
  refine wpAny_bind (wpAny_bind (wpAny_field hos hds (x := vl) rfl (wpAny_bind (wpAny_field hos hds (x := vu) rfl (wpAny_bind (wpAny_field hos hds (x := vs) rfl (wpAny_pure ?_)))))))
  refine wpAny_bind (HT.slicePart_ ps ?_)
  show wpAny _ _ (if ((-1 : Int) == 0) = true then _ else _) _ _ s
  rw [if_neg (by decide)]
  refine wpAny_bind (HT.slicePart_ pl (wpAny_bind (HT.slicePart_ pu (wpAny_bind (wpAny_pure ?_)))))
  show wpAny _ _ (match Builtin.Slice.sliceAdjust none none (-1) (items.size : Int) with | (lo, hi) => pure (lo, (-1 : Int), Builtin.Slice.slicePlaces lo hi (-1))) _ _ s
  rw [adjRev]
  show wpAny _ _ (pure (((items.size : Nat) : Int) - 1, (-1 : Int), Builtin.Slice.slicePlaces (((items.size : Nat) : Int) - 1) (-1) (-1))) _ _ s
  rw [plRev]
  refine wpAny_pure ?_
  show wpAny _ _ (if ((((items.size : Nat) : Int) - 1) == 0 && (-1 : Int) == 1 && items.size == items.size) = true then _ else _) _ _ s
  have hno : ¬ (((((items.size : Nat) : Int) - 1) == 0 && (-1 : Int) == 1 && items.size == items.size) = true) := by
    rw [show ((-1 : Int) == 1) = false by decide]; simp
  rw [if_neg hno, pick_rev]
  have hk : sizeOk (.seq items.toList.reverse.toArray) := by
    show items.toList.reverse.toArray.size ≤ sizeLine
    simpa using hsz
  first
    | exact wpAny_bind (m := Builtin.Tuple.tupleExact _) (wpAny_newObj_type (wpAny_pure ⟨_, rfl, wpAny_pure h⟩) hk)
    | exact wpAny_bind (m := Builtin.Tuple.tupleExact _) (wpAny_newObj_type (wpAny_bind (wpAny_pure (wpAny_pure ⟨_, rfl, wpAny_pure h⟩))) hk)
    | exact wpAny_bind (wpAny_bind (m := Builtin.Tuple.tupleExact _) (wpAny_newObj_type (wpAny_pure (wpAny_pure ⟨_, rfl, wpAny_pure h⟩)) hk))
    | exact wpAny_bind (wpAny_bind (m := Builtin.Tuple.tupleExact _) (wpAny_newObj_type (wpAny_pure ⟨_, rfl, wpAny_pure h⟩) hk))
def tRevA (K : PySem.W.Frag) (te : TE) : TE := fun σ H Q => te σ H fun x H1 => ∃ a xs, x = .ref a ∧ ((SqL K H1 a xs ∧ ∀ p, H1 p = none → Q (.ref p) (upd H1 p (.lst xs.reverse))) ∨ (SqT K H1 a xs ∧ ∀ p, H1 p = none → Q (.ref p) (upd H1 p (.tup xs.reverse))))
theorem pe_revA {X : Cx} {e : Expr} {te : TE} {k : Nat} {p1 p2 p3 pos : Pos} (he : PE X e te) : PE X (.Subscript e (.Slice none none (some (.UnaryOp .USub (.Constant (.int 1) k p1) p2)) p3) pos) (tRevA X.K te) := by
  refine ⟨fun pins s σ H Q I h => Subscript_ (thn (he.run pins s σ H _ I h) fun v s1 ⟨x, H1, I1, r1, a, xs, ex, q⟩ => ?_)⟩
  subst ex
  cases r1
  have neg : PO X (some (.UnaryOp .USub (.Constant (.int 1) k p1) p2)) (tPart (tUn (rU fun i => .int (-i)) (tC (.int 1)))) := po_some (pe_un un_neg pe_int)
  refine wpAny_Slice (thn (po_none.run pins s1 σ H1 (fun o H2 => o = none ∧ H2 = H1) I1 ⟨rfl, rfl⟩) fun vl s2 ⟨l, H2, I2, pl, el, e2⟩ => ?_)
  subst el e2
  refine thn (po_none.run pins s2 σ H2 (fun o H3 => o = none ∧ H3 = H2) I2 ⟨rfl, rfl⟩) fun vu s3 ⟨u, H3, I3, pu, eu, e3⟩ => ?_
  subst eu e3
  refine thn (neg.run pins s3 σ H3 (fun o H4 => o = some (-1) ∧ H4 = H3) I3 ⟨1, rfl, -1, rfl, rfl, rfl⟩) fun vs s4 ⟨o, H4, I4, ps, eo, e4⟩ => ?_
  subst eo e4
  have I5 : Inv X pins σ H4 { s4 with heap := s4.heap.push ⟨.type "slice", none, .fields #[vl, vu, vs], #[]⟩ } := I4.kept (t' := s4.toks) fun b ob q => Heap.get?_push_of_some _ q
  rcases q with ⟨hx, q⟩ | ⟨hx, q⟩
  · obtain ⟨its, r, ht, hz⟩ := I5.list hx
    have hlen := r.length
    refine tail_any (ops := [.ref a, .ref s4.heap.objs.size]) ht.isList.typeIs (PySem.slot_list_getitem.lookup) ?_ (by with_unfolding_all rfl)
    refine wpAny_getItem_list_slice ht.isList (Heap.IsSliceOf.new _ vl vu vs) pl pu ps (by decide) ?_ (by rw [List.size_toArray]; omega)
    rw [PySem.W.krv_pick]
    exact ⟨.ref _, _, I5.laid (t' := s4.toks) (o := .lst xs.reverse) (fun b ob q => Heap.get?_push_of_some _ q) (Nat.le_refl _) ⟨by rw [List.length_reverse]; exact hz, _, 0, r.reverse, Heap.get?_push_size _ rfl⟩, rfl, q _ (I5.hok.fresh (Nat.le_refl _))⟩
  · obtain ⟨its, r, ht, hz⟩ := I5.tuple hx
    have hlen := r.length
    refine tail_any (ops := [.ref a, .ref s4.heap.objs.size]) ht.typeIs PyProof.Rows.slot_tuple_getitem.lookup ?_ (by with_unfolding_all rfl)
    refine getRevT ht (Heap.IsSliceOf.new _ vl vu vs) pl pu ps ?_ (by rw [List.size_toArray]; omega)
    exact ⟨.ref _, _, I5.laid (t' := s4.toks) (o := .tup xs.reverse) (fun b ob q => Heap.get?_push_of_some _ q) (Nat.le_refl _) ⟨by rw [List.length_reverse]; exact hz, _, r.reverse, IsTup.new _ _⟩, rfl, q _ (I5.hok.fresh (Nat.le_refl _))⟩
end Dv
end
section
set_option maxHeartbeats 400000
/-! DvA: deep values, what they stand for in an abstract heap, the ghost of frozen things, outcomes, readings. -/
namespace Dv
open PySem PySem.Spec PyProof.Rows L2

/-- a deep value -/
inductive D where
  | non | bl (b : Bool) | int (i : Int) | str (x : Str)
  | tup (ds : List D) | lst (ds : List D)
  | obj (c : Nat) (fs : List (Str × D))
  | dct (kvs : List (D × D))
  | con (v : V)
  | pool | cel
  | scr (ns : List Int)
/-- a plain key -/
def keyD : D → Option Key
  | .int i => some (.inl i)
  | .str x => some (.inr x)
  | _ => none

/-- an error of the text: its class, its fields -/
structure Ex where
  c : Nat
  fs : List (Str × D)

/-- the pool's state: seed, how many draws, the great cells -/
structure PSt where
  seed : Int
  cnt : Int
  cells : List Int
abbrev G := Option PSt

inductive R (α : Type) where
  | ok (a : α) (g : G) | err (e : Ex) (g : G) | stuck
abbrev M (α : Type) := G → R α
def M.ret {α : Type} (a : α) : M α := fun g => .ok a g
def M.bind {α β : Type} (m : M α) (f : α → M β) : M β := fun g => match m g with
  | .ok a g' => f a g'
  | .err e g' => .err e g'
  | .stuck => .stuck
def M.fail {α : Type} : M α := fun _ => .stuck
def M.of {α : Type} : Option α → M α
  | some a => .ret a
  | none => .fail

/-! ### what stands for a deep value -/
/-- the text's static part: the written part, the classes' addresses -/
structure Sx where
  K : PySem.W.Frag
  cls : Nat → Addr
/-- the ghost: what is frozen, the pool's two lists -/
structure Gh where
  Z : Hp
  pl : Option (Addr × Addr)
def inPool (W : Gh) (b : Addr) : Prop := ∃ a l, W.pl = some (a, l) ∧ (b = a ∨ b = l)

mutual
/-- d is what v stands for -/
def Rep (S : Sx) (W : Gh) : D → V → Prop
  | .non, v => v = .non
  | .bl b, v => v = .bl b
  | .int i, v => v = .int i
  | .str x, v => v = .str x
  | .tup ds, v => ∃ a vs, v = .ref a ∧ W.Z a = some (.tup vs) ∧ Reps S W ds vs
  | .lst ds, v => ∃ a vs, v = .ref a ∧ W.Z a = some (.lst vs) ∧ Reps S W ds vs
  | .obj c fs, v => ∃ a dx vfs, v = .ref a ∧ W.Z a = some (.ins (S.cls c) dx vfs) ∧ RepF S W fs vfs
  | .dct kvs, v => ∃ a kv', v = .ref a ∧ W.Z a = some (.dK kv') ∧ RepK S W kvs kv'
  | .con w, v => v = w
  | .pool, v => ∃ a l, W.pl = some (a, l) ∧ v = .ref a
  | .cel, v => ∃ a l, W.pl = some (a, l) ∧ v = .ref l
  | .scr ns, v => ∃ a, v = .ref a ∧ SqL S.K W.Z a (ns.map V.int)
def Reps (S : Sx) (W : Gh) : List D → List V → Prop
  | [], [] => True
  | d :: ds, v :: vs => Rep S W d v ∧ Reps S W ds vs
  | _, _ => False
def RepF (S : Sx) (W : Gh) : List (Str × D) → List (Str × V) → Prop
  | [], [] => True
  | (f, d) :: ds, (f', v) :: vs => f = f' ∧ Rep S W d v ∧ RepF S W ds vs
  | _, _ => False
def RepK (S : Sx) (W : Gh) : List (D × D) → List (Key × V) → Prop
  | [], [] => True
  | (k, d) :: ds, (k', v) :: vs => keyD k = some k' ∧ Rep S W d v ∧ RepK S W ds vs
  | _, _ => False
end
/-- an object's content for a deep value with a place of its own -/
def RepO (S : Sx) (W : Gh) (d : D) (o : HO) : Prop := match d with
  | .lst ds => ∃ vs, o = .lst vs ∧ Reps S W ds vs
  | .obj c fs => ∃ dx vfs, o = .ins (S.cls c) dx vfs ∧ RepF S W fs vfs
  | .dct kvs => ∃ kv', o = .dK kv' ∧ RepK S W kvs kv'
  | _ => False

mutual
/-- no mutable thing within -/
def imm : D → Bool
  | .non => true | .bl _ => true | .int _ => true | .str _ => true | .con _ => true
  | .tup ds => imms ds
  | _ => false
def imms : List D → Bool
  | [] => true
  | d :: ds => imm d && imms ds
end
theorem imms_all (ds : List D) : imms ds = ds.all imm := by
  induction ds with
  | nil => rfl
  | cons d r ih => rw [imms, ih]; rfl

section
variable {S : Sx} {W W' : Gh}
structure Le (W W' : Gh) : Prop where
  z : ∀ a o, W.Z a = some o → W'.Z a = some o
  p : ∀ x, W.pl = some x → W'.pl = some x
theorem Le.refl : Le W W := ⟨fun _ _ h => h, fun _ h => h⟩
theorem Le.trans {W1 W2 W3 : Gh} (a : Le W1 W2) (b : Le W2 W3) : Le W1 W3 := ⟨fun x o h => b.z x o (a.z x o h), fun x h => b.p x (a.p x h)⟩
theorem sqL_mono {K : PySem.W.Frag} {H H' : Hp} {a : Addr} {xs : List V} (k : ∀ a o, H a = some o → H' a = some o) (h : SqL K H a xs) : SqL K H' a xs := by
  rcases h with (h | ⟨o, h⟩) | h
  · exact .inl (.inl (k _ _ h))
  · exact .inl (.inr ⟨o, k _ _ h⟩)
  · exact .inr h
mutual
theorem Rep.mono (l : Le W W') : ∀ (d : D) (v : V), Rep S W d v → Rep S W' d v
  | .non, v, h => h
  | .bl b, v, h => h
  | .int i, v, h => h
  | .str x, v, h => h
  | .tup ds, v, h => by
    obtain ⟨a, vs, e, hz, r⟩ := h
    exact ⟨a, vs, e, l.z _ _ hz, Reps.mono l ds vs r⟩
  | .lst ds, v, h => by
    obtain ⟨a, vs, e, hz, r⟩ := h
    exact ⟨a, vs, e, l.z _ _ hz, Reps.mono l ds vs r⟩
  | .obj c fs, v, h => by
    obtain ⟨a, dx, vfs, e, hz, r⟩ := h
    exact ⟨a, dx, vfs, e, l.z _ _ hz, RepF.mono l fs vfs r⟩
  | .dct kvs, v, h => by
    obtain ⟨a, kv', e, hz, r⟩ := h
    exact ⟨a, kv', e, l.z _ _ hz, RepK.mono l kvs kv' r⟩
  | .con w, v, h => h
  | .pool, v, h => by
    obtain ⟨a, p, e, h⟩ := h
    exact ⟨a, p, l.p _ e, h⟩
  | .cel, v, h => by
    obtain ⟨a, p, e, h⟩ := h
    exact ⟨a, p, l.p _ e, h⟩
  | .scr ns, v, h => by
    obtain ⟨a, e, h⟩ := h
    exact ⟨a, e, sqL_mono l.z h⟩
theorem Reps.mono (l : Le W W') : ∀ (ds : List D) (vs : List V), Reps S W ds vs → Reps S W' ds vs
  | [], [], _ => trivial
  | d :: ds, v :: vs, h => ⟨Rep.mono l d v h.1, Reps.mono l ds vs h.2⟩
  | [], _ :: _, h => h.elim
  | _ :: _, [], h => h.elim
theorem RepF.mono (l : Le W W') : ∀ (ds : List (Str × D)) (vs : List (Str × V)), RepF S W ds vs → RepF S W' ds vs
  | [], [], _ => trivial
  | (f, d) :: ds, (f', v) :: vs, h => ⟨h.1, Rep.mono l d v h.2.1, RepF.mono l ds vs h.2.2⟩
  | [], _ :: _, h => h.elim
  | _ :: _, [], h => h.elim
theorem RepK.mono (l : Le W W') : ∀ (ds : List (D × D)) (vs : List (Key × V)), RepK S W ds vs → RepK S W' ds vs
  | [], [], _ => trivial
  | (f, d) :: ds, (f', v) :: vs, h => ⟨h.1, Rep.mono l d v h.2.1, RepK.mono l ds vs h.2.2⟩
  | [], _ :: _, h => h.elim
  | _ :: _, [], h => h.elim
end
theorem RepO.mono (l : Le W W') : ∀ (d : D) (o : HO), RepO S W d o → RepO S W' d o
  | .lst ds, o, ⟨vs, e, h⟩ => ⟨vs, e, Reps.mono l ds vs h⟩
  | .obj c fs, o, ⟨dx, vfs, e, h⟩ => ⟨dx, vfs, e, RepF.mono l fs vfs h⟩
  | .dct kvs, o, ⟨kv', e, h⟩ => ⟨kv', e, RepK.mono l kvs kv' h⟩
theorem RepO.rep : ∀ (d : D) {o : HO} {p : Addr}, RepO S W d o → W.Z p = some o → Rep S W d (.ref p)
  | .lst ds, o, p, ⟨vs, e, h⟩, hz => ⟨p, vs, rfl, by rw [hz, e], h⟩
  | .obj c fs, o, p, ⟨dx, vfs, e, h⟩, hz => ⟨p, dx, vfs, rfl, by rw [hz, e], h⟩
  | .dct kvs, o, p, ⟨kv', e, h⟩, hz => ⟨p, kv', rfl, by rw [hz, e], h⟩
theorem Reps.length : ∀ {ds : List D} {vs : List V}, Reps S W ds vs → ds.length = vs.length
  | [], [], _ => rfl
  | _ :: _, _ :: _, h => congrArg (· + 1) (Reps.length h.2)
  | [], _ :: _, h => h.elim
  | _ :: _, [], h => h.elim
theorem Reps.get : ∀ {ds : List D} {vs : List V} {i : Nat} {d : D}, Reps S W ds vs → ds[i]? = some d → ∃ v, vs[i]? = some v ∧ Rep S W d v
  | d :: ds, v :: vs, 0, _, h, e => by
    have e := Option.some.inj e
    subst e
    exact ⟨v, rfl, h.1⟩
  | d :: ds, v :: vs, i + 1, _, h, e => Reps.get (ds := ds) (vs := vs) (i := i) h.2 e
  | [], _, _, _, _, e => by simp at e
  | _ :: _, [], _, _, h, _ => h.elim
theorem Reps.getV : ∀ {ds : List D} {vs : List V} {i : Nat} {v : V}, Reps S W ds vs → vs[i]? = some v → ∃ d, ds[i]? = some d ∧ Rep S W d v
  | d :: ds, v :: vs, 0, _, h, e => by
    have e := Option.some.inj e
    subst e
    exact ⟨d, rfl, h.1⟩
  | d :: ds, v :: vs, i + 1, _, h, e => Reps.getV (ds := ds) (vs := vs) (i := i) h.2 e
  | _, [], _, _, _, e => by simp at e
  | [], _ :: _, _, _, h, _ => h.elim
theorem Reps.append : ∀ {ds : List D} {vs : List V} {es : List D} {us : List V}, Reps S W ds vs → Reps S W es us → Reps S W (ds ++ es) (vs ++ us)
  | [], [], _, _, _, h' => h'
  | _ :: _, _ :: _, _, _, h, h' => ⟨h.1, Reps.append h.2 h'⟩
  | [], _ :: _, _, _, h, _ => h.elim
  | _ :: _, [], _, _, h, _ => h.elim
theorem Reps.one {d : D} {v : V} (h : Rep S W d v) : Reps S W [d] [v] := ⟨h, trivial⟩
theorem Reps.take : ∀ (n : Nat) {ds : List D} {vs : List V}, Reps S W ds vs → Reps S W (ds.take n) (vs.take n)
  | 0, _, _, _ => trivial
  | n + 1, [], [], _ => trivial
  | n + 1, _ :: _, _ :: _, h => ⟨h.1, Reps.take n h.2⟩
  | _ + 1, [], _ :: _, h => h.elim
  | _ + 1, _ :: _, [], h => h.elim
theorem Reps.drop : ∀ (n : Nat) {ds : List D} {vs : List V}, Reps S W ds vs → Reps S W (ds.drop n) (vs.drop n)
  | 0, _, _, h => h
  | n + 1, [], [], _ => trivial
  | n + 1, _ :: _, _ :: _, h => Reps.drop n h.2
  | _ + 1, [], _ :: _, h => h.elim
  | _ + 1, _ :: _, [], h => h.elim
theorem Reps.set {d : D} {v : V} (hd : Rep S W d v) : ∀ (n : Nat) {ds : List D} {vs : List V}, Reps S W ds vs → Reps S W (ds.set n d) (vs.set n v)
  | _, [], [], _ => trivial
  | 0, _ :: _, _ :: _, h => ⟨hd, h.2⟩
  | n + 1, _ :: _, _ :: _, h => ⟨h.1, Reps.set hd n h.2⟩
  | _, [], _ :: _, h => h.elim
  | _, _ :: _, [], h => h.elim
theorem Reps.reverse : ∀ {ds : List D} {vs : List V}, Reps S W ds vs → Reps S W ds.reverse vs.reverse
  | [], [], _ => trivial
  | d :: ds, v :: vs, h => by
    rw [List.reverse_cons, List.reverse_cons]
    exact Reps.append (Reps.reverse h.2) (Reps.one h.1)
  | [], _ :: _, h => h.elim
  | _ :: _, [], h => h.elim
theorem Reps.dropLast {ds : List D} {vs : List V} (h : Reps S W ds vs) : Reps S W ds.dropLast vs.dropLast := by
  rw [List.dropLast_eq_take, List.dropLast_eq_take, h.length]
  exact Reps.take _ h
theorem Reps.eraseIdx : ∀ (n : Nat) {ds : List D} {vs : List V}, Reps S W ds vs → Reps S W (ds.eraseIdx n) (vs.eraseIdx n)
  | _, [], [], _ => trivial
  | 0, _ :: _, _ :: _, h => h.2
  | n + 1, _ :: _, _ :: _, h => ⟨h.1, Reps.eraseIdx n h.2⟩
  | _, [], _ :: _, h => h.elim
  | _, _ :: _, [], h => h.elim
theorem RepF.lookup {f : Str} {d : D} : ∀ {fs : List (Str × D)} {vfs : List (Str × V)}, RepF S W fs vfs → fs.lookup f = some d → ∃ v, vfs.lookup f = some v ∧ Rep S W d v
  | (g, e) :: fs, (g', v) :: vfs, h, l => by
    obtain ⟨rfl, h1, h2⟩ := h
    rw [List.lookup_cons] at l ⊢
    cases q : f == g with
    | true =>
      simp only [q] at l ⊢
      have l := Option.some.inj l
      subst l
      exact ⟨v, rfl, h1⟩
    | false =>
      simp only [q] at l ⊢
      exact RepF.lookup h2 l
  | [], _, _, l => by simp at l
  | _ :: _, [], h, _ => h.elim
theorem RepF.lookup_none {f : Str} : ∀ {fs : List (Str × D)} {vfs : List (Str × V)}, RepF S W fs vfs → fs.lookup f = none → vfs.lookup f = none
  | (g, e) :: fs, (g', v) :: vfs, h, l => by
    obtain ⟨rfl, h1, h2⟩ := h
    rw [List.lookup_cons] at l ⊢
    cases q : f == g with
    | true => simp only [q] at l; cases l
    | false =>
      simp only [q] at l ⊢
      exact RepF.lookup_none h2 l
  | [], [], _, _ => rfl
  | [], _ :: _, h, _ => h.elim
  | _ :: _, [], h, _ => h.elim
theorem RepF.length : ∀ {ds : List (Str × D)} {vs : List (Str × V)}, RepF S W ds vs → ds.length = vs.length
  | [], [], _ => rfl
  | (_, _) :: _, (_, _) :: _, h => congrArg (· + 1) (RepF.length h.2.2)
  | [], _ :: _, h => h.elim
  | _ :: _, [], h => h.elim
theorem Reps.ints : ∀ (ns : List Int), Reps S W (ns.map D.int) (ns.map V.int)
  | [] => trivial
  | _ :: r => ⟨rfl, Reps.ints r⟩
end

/-! ### growing -/
/-- from W, H to W', H': what was frozen stays, what was tracked stays but for the pool and for what stands in ex -/
structure Ext (ex : List Addr) (W : Gh) (H : Hp) (W' : Gh) (H' : Hp) : Prop where
  le : Le W W'
  keep : ∀ a o, H a = some o → ¬ inPool W a → a ∉ ex → H' a = some o
  there : ∀ a, H a ≠ none → H' a ≠ none
  new : ∀ a o, W'.Z a = some o → W.Z a = some o ∨ H a = none
  newp : ∀ a, inPool W' a → inPool W a ∨ H a = none
def PoolIn (W : Gh) (H : Hp) : G → Prop
  | none => W.pl = none
  | some p => ∃ a l, W.pl = some (a, l) ∧ a ≠ l ∧ W.Z a = none ∧ W.Z l = none ∧ H a = some (.lst [.int p.seed, .int p.cnt, .ref l]) ∧ H l = some (.lst (p.cells.map V.int))
/-- what is frozen stands in the heap -/
def ZIn (W : Gh) (H : Hp) : Prop := ∀ a o, W.Z a = some o → H a = some o
section
variable {ex : List Addr} {W W' W1 W2 W3 : Gh} {H H' H1 H2 H3 : Hp}
theorem inPool_mono (l : Le W W') {a : Addr} (h : inPool W a) : inPool W' a := by
  obtain ⟨x, y, e, h⟩ := h
  exact ⟨x, y, l.p _ e, h⟩
theorem Ext.refl : Ext ex W H W H := ⟨.refl, fun _ _ h _ _ => h, fun _ h => h, fun _ _ h => .inl h, fun _ h => .inl h⟩
theorem Ext.trans (a : Ext ex W1 H1 W2 H2) (b : Ext ex W2 H2 W3 H3) : Ext ex W1 H1 W3 H3 where
  le := a.le.trans b.le
  keep := fun x o h np nx => b.keep x o (a.keep x o h np nx) (fun q => by
    rcases a.newp x q with z | z
    · exact np z
    · rw [h] at z; cases z) nx
  there := fun x h => b.there x (a.there x h)
  new := fun x o h => by
    rcases b.new x o h with z | z
    · exact a.new x o z
    · refine .inr ?_
      cases q : H1 x with
      | none => rfl
      | some u => exact absurd z (a.there x (by rw [q]; simp))
  newp := fun x h => by
    rcases b.newp x h with z | z
    · exact a.newp x z
    · refine .inr ?_
      cases q : H1 x with
      | none => rfl
      | some u => exact absurd z (a.there x (by rw [q]; simp))
theorem Ext.weak {ex' : List Addr} (a : Ext [] W1 H1 W2 H2) : Ext ex' W1 H1 W2 H2 := ⟨a.le, fun x o h np _ => a.keep x o h np (by simp), a.there, a.new, a.newp⟩
def frz (W : Gh) (p : Addr) (o : HO) : Gh := { W with Z := upd W.Z p o }
theorem frz_le {p : Addr} {o : HO} (h : W.Z p = none) : Le W (frz W p o) := ⟨fun a u e => by
  show upd W.Z p o a = some u
  rw [upd_ne (ne_of_none e h)]
  exact e, fun _ h => h⟩
/-- a new object, frozen at once -/
theorem Ext.laid {p : Addr} {o : HO} (hz : ZIn W H) (hp : H p = none) : Ext ex W H (frz W p o) (upd H p o) := by
  have nz : W.Z p = none := by
    cases q : W.Z p with
    | none => rfl
    | some u => rw [hz _ _ q] at hp; cases hp
  refine ⟨frz_le nz, fun a u e _ _ => ?_, fun a e => ?_, fun a u e => ?_, fun a h => .inl h⟩
  · rw [upd_ne (ne_of_none e hp)]; exact e
  · by_cases h : a = p
    · subst h; rw [upd_same]; simp
    · rw [upd_ne h]; exact e
  · by_cases h : a = p
    · subst h; exact .inr hp
    · have e : upd W.Z p o a = some u := e
      rw [upd_ne h] at e; exact .inl e
/-- a new object, not frozen -/
theorem Ext.fresh {p : Addr} {o : HO} (hp : H p = none) : Ext ex W H W (upd H p o) := by
  refine ⟨.refl, fun a u e _ _ => ?_, fun a e => ?_, fun a u e => .inl e, fun a h => .inl h⟩
  · rw [upd_ne (ne_of_none e hp)]; exact e
  · by_cases h : a = p
    · subst h; rw [upd_same]; simp
    · rw [upd_ne h]; exact e
theorem ZIn.laid {p : Addr} {o : HO} (hz : ZIn W H) (hp : H p = none) : ZIn (frz W p o) (upd H p o) := fun a u e => by
  have e : upd W.Z p o a = some u := e
  by_cases h : a = p
  · subst h; rw [upd_same] at e ⊢; exact e
  · rw [upd_ne h] at e ⊢; exact hz _ _ e
theorem ZIn.fresh {p : Addr} {o : HO} (hz : ZIn W H) (hp : H p = none) : ZIn W (upd H p o) := fun a u e => by
  rw [upd_ne (ne_of_none (hz _ _ e) hp)]; exact hz _ _ e
theorem PoolIn.lt {g : G} (h : PoolIn W H g) {a : Addr} (ha : inPool W a) : H a ≠ none ∧ W.Z a = none := by
  obtain ⟨x, y, e, q⟩ := ha
  cases g with
  | none => rw [show W.pl = none from h] at e; cases e
  | some p =>
    obtain ⟨a', l', e', ne, z1, z2, h1, h2⟩ := h
    rw [e] at e'; cases e'
    rcases q with rfl | rfl
    · exact ⟨by rw [h1]; simp, z1⟩
    · exact ⟨by rw [h2]; simp, z2⟩
theorem PoolIn.laid {g : G} {p : Addr} {o : HO} (h : PoolIn W H g) (hp : H p = none) : PoolIn (frz W p o) (upd H p o) g := by
  cases g with
  | none => exact h
  | some q =>
    obtain ⟨a, l, e, ne, z1, z2, h1, h2⟩ := h
    refine ⟨a, l, e, ne, ?_, ?_, ?_, ?_⟩
    · show upd W.Z p o a = none
      rw [upd_ne (ne_of_none h1 hp)]; exact z1
    · show upd W.Z p o l = none
      rw [upd_ne (ne_of_none h2 hp)]; exact z2
    · rw [upd_ne (ne_of_none h1 hp)]; exact h1
    · rw [upd_ne (ne_of_none h2 hp)]; exact h2
theorem PoolIn.fresh {g : G} {p : Addr} {o : HO} (h : PoolIn W H g) (hp : H p = none) : PoolIn W (upd H p o) g := by
  cases g with
  | none => exact h
  | some q =>
    obtain ⟨a, l, e, ne, z1, z2, h1, h2⟩ := h
    exact ⟨a, l, e, ne, z1, z2, by rw [upd_ne (ne_of_none h1 hp)]; exact h1, by rw [upd_ne (ne_of_none h2 hp)]; exact h2⟩
theorem inPool_frz {p : Addr} {o : HO} {a : Addr} : inPool (frz W p o) a ↔ inPool W a := Iff.rfl
end
end Dv
end
section
set_option maxHeartbeats 400000
/-! DvB: outcomes, readings of expressions, operators by deep values. -/
namespace Dv
open PySem PySem.Spec PyProof.Rows L2

abbrev Env := List (Option (D × Bool))
def SlotsOk (S : Sx) (W : Gh) (env : Env) (σ : L2.St) : Prop := ∀ (i : Nat) (d : D) (b : Bool), env[i]? = some (some (d, b)) → ∃ v, σ[i]? = some (some v) ∧ Rep S W d v
/-- an error's class and own dict -/
def ExRep (S : Sx) (W : Gh) (H : Hp) (e : Ex) (c : Value) (dx : Option Addr) : Prop :=
  c = .ref (S.cls e.c) ∧ ((dx = none ∧ e.fs = []) ∨ ∃ p vfs, e.fs ≠ [] ∧ dx = some p ∧ H p = some (.xd vfs) ∧ RepF S W e.fs vfs)
structure StOk (S : Sx) (W : Gh) (env : Env) (σ : L2.St) (H : Hp) (g : G) : Prop where
  zin : ZIn W H
  pool : PoolIn W H g
  slots : SlotsOk S W env σ
  len : env.length = σ.length
/-- what is asked of an outcome -/
def Out {α : Type} (S : Sx) (Wx : WX) (σ : L2.St) (W : Gh) (H : Hp) (r : R α) (k : α → G → Gh → Hp → Prop) : Prop := match r with
  | .ok a g => ∀ W' H', Ext [] W H W' H' → ZIn W' H' → PoolIn W' H' g → k a g W' H'
  | .err e g => ∀ W' H' c dx, Ext [] W H W' H' → ZIn W' H' → PoolIn W' H' g → ExRep S W' H' e c dx → Wx c dx σ H'
  | .stuck => False
section
variable {S : Sx} {Wx : WX} {σ : L2.St} {W W' : Gh} {H H' : Hp} {g : G} {env : Env}
theorem SlotsOk.mono (h : SlotsOk S W env σ) (l : Le W W') : SlotsOk S W' env σ := fun i d b e => by
  obtain ⟨v, e', r⟩ := h i d b e
  exact ⟨v, e', r.mono l⟩
theorem StOk.next {g' : G} (h : StOk S W env σ H g) (e : Ext [] W H W' H') (z : ZIn W' H') (p : PoolIn W' H' g') : StOk S W' env σ H' g' := ⟨z, p, h.slots.mono e.le, h.len⟩
theorem Out.mono {α : Type} {r : R α} {k k' : α → G → Gh → Hp → Prop} (h : Out S Wx σ W H r k) (hk : ∀ a g W' H', Ext [] W H W' H' → ZIn W' H' → PoolIn W' H' g → k a g W' H' → k' a g W' H') : Out S Wx σ W H r k' := by
  cases r with
  | ok a g => exact fun W' H' e z p => hk a g W' H' e z p (h W' H' e z p)
  | err e g => exact h
  | stuck => exact h
theorem Out.bind {α β : Type} {m : M α} {f : α → M β} {k : β → G → Gh → Hp → Prop} (h : Out S Wx σ W H (m.bind f g) k) : Out S Wx σ W H (m g) fun a g1 W1 H1 => Out S Wx σ W1 H1 (f a g1) k := by
  unfold M.bind at h
  cases e : m g with
  | stuck => rw [e] at h; exact h.elim
  | err x g1 => rw [e] at h; exact h
  | ok a g1 =>
    rw [e] at h
    intro W1 H1 e1 z1 p1
    have h : Out S Wx σ W H (f a g1) k := h
    cases e2 : f a g1 with
    | stuck => rw [e2] at h; exact h.elim
    | err x g2 =>
      rw [e2] at h
      exact fun W' H' c dx e' z' p' r' => h W' H' c dx (e1.trans e') z' p' r'
    | ok b g2 =>
      rw [e2] at h
      exact fun W' H' e' z' p' => h W' H' (e1.trans e') z' p'
theorem Out.ret {α : Type} {a : α} {k : α → G → Gh → Hp → Prop} (h : Out S Wx σ W H (M.ret a g) k) (z : ZIn W H) (p : PoolIn W H g) : k a g W H := h W H .refl z p
theorem Out.of {α : Type} {o : Option α} {k : α → G → Gh → Hp → Prop} (h : Out S Wx σ W H (M.of o g) k) : ∃ a, o = some a ∧ ∀ W' H', Ext [] W H W' H' → ZIn W' H' → PoolIn W' H' g → k a g W' H' := by
  cases o with
  | none => exact h.elim
  | some a => exact ⟨a, rfl, h⟩
end

/-! ### readings -/
def tD (S : Sx) (Wx : WX) (f : Env → M D) : TE := fun σ H Q => ∃ env W g, StOk S W env σ H g ∧ Out S Wx σ W H (f env g) fun d _ W' H' => ∀ v, Rep S W' d v → Q v H'
def tB (S : Sx) (Wx : WX) (f : Env → M Bool) : TT := fun σ H Q => ∃ env W g, StOk S W env σ H g ∧ Out S Wx σ W H (f env g) fun b _ _ H' => Q b H'
def tA (S : Sx) (Wx : WX) (f : Env → M (List D)) : TA := fun σ H Q => ∃ env W g, StOk S W env σ H g ∧ Out S Wx σ W H (f env g) fun ds _ W' H' => ∀ vs, Reps S W' ds vs → Q vs H'
/-- the new list (dict ..) itself, not frozen -/
def tF (S : Sx) (Wx : WX) (f : Env → M D) : TE := fun σ H Q => ∃ env W g, StOk S W env σ H g ∧ Out S Wx σ W H (f env g) fun d _ W' H' => ∀ p o, H p = none → W'.Z p = none → ¬ inPool W' p → H' p = some o → RepO S W' d o → Q (.ref p) H'
theorem impE {X : Cx} {e : Expr} {t t' : TE} (h : PE X e t) (i : ∀ σ H Q, t' σ H Q → t σ H Q) : PE X e t' := ⟨fun pins s σ H Q I q => h.run pins s σ H Q I (i σ H Q q)⟩
theorem impT {X : Cx} {e : Expr} {t t' : TT} (h : PT X e t) (i : ∀ σ H Q, t' σ H Q → t σ H Q) : PT X e t' := ⟨fun pins s σ H Q I q => h.run pins s σ H Q I (i σ H Q q)⟩
theorem impW {X : Cx} {e : Expr} {t t' : TT} (h : PW X e t) (i : ∀ σ H Q, t' σ H Q → t σ H Q) : PW X e t' := ⟨fun wh pins s σ H Q I q => h.run wh pins s σ H Q I (i σ H Q q)⟩
theorem impA {X : Cx} {e : List Expr} {t t' : TA} (h : PA X e t) (i : ∀ σ H Q, t' σ H Q → t σ H Q) : PA X e t' := ⟨fun pos pins s σ H Q I q => h.run pos pins s σ H Q I (i σ H Q q)⟩
theorem impI {X : Cx} {tg e : Expr} {t t' : TI} (h : PI X tg e t) (i : ∀ σ H Q, t' σ H Q → t σ H Q) : PI X tg e t' := ⟨fun pins s σ H Q I q => h.run pins s σ H Q I (i σ H Q q)⟩
theorem impS {X : Cx} {e : Stmt} {t t' : TS} (h : PS X e t) (i : ∀ D σ H, t' D σ H → t D σ H) : PS X e t' := ⟨fun pins s σ H D I q => h.run pins s σ H D I (i D σ H q)⟩
theorem impSs {X : Cx} {e : List Stmt} {t t' : TS} (h : PSs X e t) (i : ∀ D σ H, t' D σ H → t D σ H) : PSs X e t' := ⟨fun pins s σ H D I q => h.run pins s σ H D I (i D σ H q)⟩
theorem impG {X : Cx} {e : Expr} {t t' : TG} (h : PG X e t) (i : ∀ v σ H Q, t' v σ H Q → t v σ H Q) : PG X e t' := ⟨fun pins s σ H v u Q I r q => h.run pins s σ H v u Q I r (i v σ H Q q)⟩

section
variable {S : Sx} {Wx : WX} {X : Cx}
/-- freeze a new object at once -/
theorem freezeNew {W W' : Gh} {H H' : Hp} {g : G} {p : Addr} {o : HO} {d : D} (e : Ext [] W H W' H') (z : ZIn W' H') (pl : PoolIn W' H' g) (hp : H p = none) (hz : W'.Z p = none) (np : ¬ inPool W' p) (ho : H' p = some o) (r : RepO S W' d o) :
    Ext [] W H (frz W' p o) H' ∧ ZIn (frz W' p o) H' ∧ PoolIn (frz W' p o) H' g ∧ Rep S (frz W' p o) d (.ref p) := by
  have le : Le W' (frz W' p o) := frz_le hz
  refine ⟨⟨e.le.trans le, e.keep, e.there, fun a u h => ?_, fun a h => e.newp a h⟩, fun a u h => ?_, ?_, RepO.rep d (r.mono le) upd_same⟩
  · have h : upd W'.Z p o a = some u := h
    by_cases q : a = p
    · subst q; exact .inr hp
    · rw [upd_ne q] at h; exact e.new a u h
  · have h : upd W'.Z p o a = some u := h
    by_cases q : a = p
    · subst q; rw [upd_same] at h; rw [ho]; exact h
    · rw [upd_ne q] at h; exact z a u h
  · cases g with
    | none => exact pl
    | some s =>
      obtain ⟨a, l, e1, ne, z1, z2, h1, h2⟩ := pl
      refine ⟨a, l, e1, ne, ?_, ?_, h1, h2⟩
      · show upd W'.Z p o a = none
        rw [upd_ne (fun q => np ⟨a, l, e1, .inl q.symm⟩)]; exact z1
      · show upd W'.Z p o l = none
        rw [upd_ne (fun q => np ⟨a, l, e1, .inr q.symm⟩)]; exact z2
theorem PE.ofF {e : Expr} {f : Env → M D} (h : PE X e (tF S Wx f)) : PE X e (tD S Wx f) := impE h fun σ H Q ⟨env, W, g, st, q⟩ => ⟨env, W, g, st, by
  revert q
  generalize f env g = r
  intro q
  cases r with
  | ok d g' =>
    intro W' H' e z p x o hp hz np ho ro
    obtain ⟨e', z', p', r'⟩ := freezeNew e z p hp hz np ho ro
    exact q _ _ e' z' p' _ r'
  | err x g' => exact q
  | stuck => exact q⟩

/-! ### by values -/
/-- what is asked of a result c -/
def KD (S : Sx) (W : Gh) (H : Hp) (g : G) (c : D) (Q : VK) : Prop := ∀ v W' H', Ext [] W H W' H' → ZIn W' H' → PoolIn W' H' g → Rep S W' c v → Q v H'
def KF (S : Sx) (W : Gh) (H : Hp) (g : G) (c : D) (Q : VK) : Prop := ∀ p o W' H', Ext [] W H W' H' → ZIn W' H' → PoolIn W' H' g → H p = none → W'.Z p = none → ¬ inPool W' p → H' p = some o → RepO S W' c o → Q (.ref p) H'
theorem KD.kf {W : Gh} {H : Hp} {g : G} {c : D} {Q : VK} (h : KD S W H g c Q) : KF S W H g c Q := fun p o W' H' e z pl hp hz np ho r => by
  obtain ⟨e', z', p', r'⟩ := freezeNew e z pl hp hz np ho r
  exact h _ _ _ e' z' p' r'
theorem KD.same {W : Gh} {H : Hp} {g : G} {c : D} {Q : VK} {v : V} (h : KD S W H g c Q) (z : ZIn W H) (p : PoolIn W H g) (r : Rep S W c v) : Q v H := h v W H .refl z p r
/-- a new tuple -/
theorem KD.tup {W : Gh} {H : Hp} {g : G} {ds : List D} {vs : List V} {Q : VK} {p : Addr} (h : KD S W H g (.tup ds) Q) (z : ZIn W H) (pl : PoolIn W H g) (r : Reps S W ds vs) (hp : H p = none) : Q (.ref p) (upd H p (.tup vs)) := by
  have nz : W.Z p = none := by
    cases q : W.Z p with
    | none => rfl
    | some u => rw [z _ _ q] at hp; cases hp
  exact h _ _ _ (Ext.laid z hp) (z.laid hp) (pl.laid hp) ⟨p, vs, rfl, upd_same, r.mono (frz_le nz)⟩
theorem nopool {W : Gh} {H : Hp} {g : G} {p : Addr} (pl : PoolIn W H g) (hp : H p = none) : ¬ inPool W p := fun q => (pl.lt q).1 hp
theorem noZ {W : Gh} {H : Hp} {p : Addr} (z : ZIn W H) (hp : H p = none) : W.Z p = none := by
  cases q : W.Z p with
  | none => rfl
  | some u => rw [z _ _ q] at hp; cases hp
/-- a new object -/
theorem KF.new {W : Gh} {H : Hp} {g : G} {c : D} {o : HO} {Q : VK} {p : Addr} (h : KF S W H g c Q) (z : ZIn W H) (pl : PoolIn W H g) (r : RepO S W c o) (hp : H p = none) : Q (.ref p) (upd H p o) :=
  h p o W _ (Ext.fresh hp) (z.fresh hp) (pl.fresh hp) hp (noZ z hp) (nopool pl hp) upd_same r

/-- an operator by values: F's result, as a value; as a new object -/
def Op2 (S : Sx) (r : R2) (F : D → D → Option D) : Prop := ∀ (W : Gh) (H : Hp) (g : G) (x y : V) (d e c : D) (Q : VK), ZIn W H → PoolIn W H g → Rep S W d x → Rep S W e y → F d e = some c → KD S W H g c Q → r x y H Q
def Op1 (S : Sx) (r : V → Hp → VK → Prop) (F : D → Option D) : Prop := ∀ (W : Gh) (H : Hp) (g : G) (x : V) (d c : D) (Q : VK), ZIn W H → PoolIn W H g → Rep S W d x → F d = some c → KD S W H g c Q → r x H Q
def bind2 (F : D → D → Option D) (fa fb : Env → M D) : Env → M D := fun env => (fa env).bind fun d => (fb env).bind fun e => .of (F d e)
def bind1 (F : D → Option D) (fa : Env → M D) : Env → M D := fun env => (fa env).bind fun d => .of (F d)
theorem tOp_of {r : R2} {F : D → D → Option D} {fa fb : Env → M D} (ho : Op2 S r F) : ∀ σ H Q, tD S Wx (bind2 F fa fb) σ H Q → tOp r (tD S Wx fa) (tD S Wx fb) σ H Q := by
  rintro σ H Q ⟨env, W, g, st, q⟩
  refine ⟨env, W, g, st, q.bind.mono fun d g1 W1 H1 e1 z1 p1 q1 x rx => ?_⟩
  refine ⟨env, W1, g1, st.next e1 z1 p1, q1.bind.mono fun e g2 W2 H2 e2 z2 p2 q2 y ry => ?_⟩
  obtain ⟨c, hc, q3⟩ := q2.of
  exact ho W2 H2 g2 x y d e c Q z2 p2 (rx.mono e2.le) ry hc fun v W' H' e' z' p' r' => q3 W' H' e' z' p' v r'
theorem tUn_of {r : V → Hp → VK → Prop} {F : D → Option D} {fa : Env → M D} (ho : Op1 S r F) : ∀ σ H Q, tD S Wx (bind1 F fa) σ H Q → tUn r (tD S Wx fa) σ H Q := by
  rintro σ H Q ⟨env, W, g, st, q⟩
  refine ⟨env, W, g, st, q.bind.mono fun d g1 W1 H1 e1 z1 p1 q1 x rx => ?_⟩
  obtain ⟨c, hc, q3⟩ := q1.of
  exact ho W1 H1 g1 x d c Q z1 p1 rx hc fun v W' H' e' z' p' r' => q3 W' H' e' z' p' v r'
end

/-! ### operators -/
def addD : D → D → Option D
  | .int i, .int j => some (.int (i + j))
  | .str x, .str y => if x.length + y.length ≤ sizeLine then some (.str (x ++ y)) else none
  | .tup xs, .tup ys => if xs.length + ys.length ≤ sizeLine then some (.tup (xs ++ ys)) else none
  | .lst xs, .lst ys => if xs.length + ys.length ≤ sizeLine then some (.lst (xs ++ ys)) else none
  | _, _ => none
def subD : D → D → Option D
  | .int i, .int j => some (.int (i - j))
  | _, _ => none
/-- a test that no machine takes apart -/
def cb (p : Prop) : Bool := @decide p (Classical.propDecidable p)
theorem cb_iff {p : Prop} : cb p = true ↔ p := by
  unfold cb
  exact @decide_eq_true_iff p (Classical.propDecidable p)
def small64 (i : Int) : Bool := cb (-(2 ^ 64) < i ∧ i < 2 ^ 64)
def mulD : D → D → Option D
  | .int i, .int j => if small64 i || small64 j then some (.int (i * j)) else none
  | .lst xs, .int k => if cb (-(2 ^ 63) ≤ k ∧ k < 2 ^ 63 ∧ xs.length * k.toNat ≤ sizeLine) then some (.lst (List.replicate k.toNat xs).flatten) else none
  | .tup xs, .int k => if k = 1 then some (.tup xs) else if cb (xs ≠ [] ∧ 2 ≤ k ∧ k ≤ 1000 ∧ xs.length ≤ 1000) then some (.tup (List.replicate k.toNat xs).flatten) else none
  | .int k, .tup xs => if cb (xs ≠ [] ∧ 2 ≤ k ∧ k ≤ 1000 ∧ xs.length ≤ 1000) then some (.tup (List.replicate k.toNat xs).flatten) else none
  | _, _ => none
def fdivD : D → D → Option D
  | .int i, .int j => if cb (CDivW i j) then some (.int (i / j)) else none
  | _, _ => none
def modD : D → D → Option D
  | .int i, .int j => if 0 < j then some (.int (i % j)) else none
  | _, _ => none
def powD : D → D → Option D
  | .int i, .int j => if cb (0 ≤ j ∧ j ≤ 1000000 ∧ i.natAbs < 2 ^ 64) then some (.int (i ^ j.toNat)) else none
  | _, _ => none
def negD : D → Option D
  | .int i => some (.int (-i))
  | _ => none
section
variable {S : Sx} {X : Cx}
theorem Rep.sqL {W : Gh} {H : Hp} {K : PySem.W.Frag} (z : ZIn W H) {a : Addr} {vs : List V} (h : W.Z a = some (.lst vs)) : SqL K H a vs := .inl (.inl (z _ _ h))
theorem Rep.sqT {W : Gh} {H : Hp} {K : PySem.W.Frag} (z : ZIn W H) {a : Addr} {vs : List V} (h : W.Z a = some (.tup vs)) : SqT K H a vs := .inl (.inl (z _ _ h))
theorem Reps.nil_iff {W : Gh} {ds : List D} {vs : List V} (h : Reps S W ds vs) : vs = [] ↔ ds = [] := by
  have := h.length
  cases ds <;> cases vs <;> simp_all
def rAddA (K : PySem.W.Frag) : R2 := fun x y H Q => (∃ i j, x = .int i ∧ y = .int j ∧ Q (.int (i + j)) H) ∨ (∃ i j, x = .str i ∧ y = .str j ∧ i.length + j.length ≤ sizeLine ∧ Q (.str (i ++ j)) H) ∨ rCatA K x y H Q ∨ rCat x y H Q
theorem op_addA : OpR X (binaryOp .Add) (rAddA X.K) := op_add.or (op_add_str.or (op_catA.or op_cat))
theorem op2_add : Op2 S (rAddA S.K) addD := by
  intro W H g x y d e c Q z pl rx ry hc k
  unfold addD at hc
  split at hc
  · cases hc
    exact .inl ⟨_, _, rx, ry, k.same z pl rfl⟩
  · split at hc
    · cases hc
      exact .inr (.inl ⟨_, _, rx, ry, by assumption, k.same z pl rfl⟩)
    · cases hc
  · rename_i xs ys
    split at hc
    · rename_i hl
      cases hc
      obtain ⟨a, vs, rfl, ha, ra⟩ := rx
      obtain ⟨b, us, rfl, hb, rb⟩ := ry
      refine .inr (.inr (.inl ⟨a, b, vs, us, rfl, rfl, Rep.sqT z ha, Rep.sqT z hb, by rw [← ra.length, ← rb.length]; exact hl, fun h0 => ?_, fun _ h0 => ?_, fun _ _ p hp => k.tup z pl (ra.append rb) hp⟩))
      · have : xs = [] := ra.nil_iff.mp h0
        subst this
        exact k.same z pl ⟨b, us, rfl, hb, rb⟩
      · have : ys = [] := rb.nil_iff.mp h0
        subst this
        rw [List.append_nil] at k
        exact k.same z pl ⟨a, vs, rfl, ha, ra⟩
    · cases hc
  · split at hc
    · rename_i hl
      cases hc
      obtain ⟨a, vs, rfl, ha, ra⟩ := rx
      obtain ⟨b, us, rfl, hb, rb⟩ := ry
      exact .inr (.inr (.inr ⟨a, b, vs, us, rfl, rfl, z _ _ ha, z _ _ hb, by rw [← ra.length, ← rb.length]; exact hl, fun p hp => k.kf.new z pl ⟨_, rfl, ra.append rb⟩ hp⟩))
    · cases hc
  · cases hc
theorem op2_sub : Op2 S (rI0 fun i j => .int (i - j)) subD := by
  intro W H g x y d e c Q z pl rx ry hc k
  unfold subD at hc
  split at hc
  · cases hc
    exact ⟨_, _, rx, ry, k.same z pl rfl⟩
  · cases hc
def rMulA (K : PySem.W.Frag) : R2 := fun x y H Q => rI CMul (fun i j => .int (i * j)) x y H Q ∨ rRep x y H Q ∨ rRep1 K x y H Q ∨ rRepT K x y H Q ∨ rRepL K x y H Q
theorem op_mulA : OpR X (binaryOp .Mult) (rMulA X.K) := op_mul.or (op_rep.or (op_rep1.or (op_repT.or op_repL)))
theorem Reps.rep {W : Gh} {ds : List D} {vs : List V} (h : Reps S W ds vs) : ∀ k : Nat, Reps S W (List.replicate k ds).flatten (List.replicate k vs).flatten
  | 0 => trivial
  | k + 1 => by
    rw [List.replicate_succ, List.replicate_succ, List.flatten_cons, List.flatten_cons]
    exact h.append (Reps.rep h k)
theorem op2_mul : Op2 S (rMulA S.K) mulD := by
  intro W H g x y d e c Q z pl rx ry hc k
  unfold mulD at hc
  split at hc
  · split at hc
    · rename_i hs
      cases hc
      refine .inl ⟨_, _, rx, ry, ?_, k.same z pl rfl⟩
      simp only [small64, Bool.or_eq_true, cb_iff] at hs
      exact hs
    · cases hc
  · split at hc
    · rename_i hs
      cases hc
      obtain ⟨a, vs, rfl, ha, ra⟩ := rx
      obtain ⟨h1, h2, h3⟩ := cb_iff.mp hs
      exact .inr (.inl ⟨a, _, vs, rfl, ry, z _ _ ha, h1, h2, by rw [← ra.length]; exact h3, fun p hp => k.kf.new z pl ⟨_, rfl, ra.rep _⟩ hp⟩)
    · cases hc
  · split at hc
    · rename_i h1
      cases hc
      obtain ⟨a, vs, rfl, ha, ra⟩ := rx
      obtain rfl : y = .int _ := ry
      subst h1
      exact .inr (.inr (.inl ⟨a, vs, rfl, rfl, Rep.sqT z ha, k.same z pl ⟨a, vs, rfl, ha, ra⟩⟩))
    · split at hc
      · rename_i hs
        cases hc
        obtain ⟨a, vs, rfl, ha, ra⟩ := rx
        obtain ⟨h1, h2, h3, h4⟩ := cb_iff.mp hs
        exact .inr (.inr (.inr (.inl ⟨a, _, vs, rfl, ry, Rep.sqT z ha, fun e => h1 (ra.nil_iff.mp e), h2, h3, by rw [← ra.length]; exact h4, fun p hp => k.tup z pl (ra.rep _) hp⟩)))
      · cases hc
  · split at hc
    · rename_i hs
      cases hc
      obtain ⟨a, vs, rfl, ha, ra⟩ := ry
      obtain ⟨h1, h2, h3, h4⟩ := cb_iff.mp hs
      exact .inr (.inr (.inr (.inr ⟨a, _, vs, rfl, rx, Rep.sqT z ha, fun e => h1 (ra.nil_iff.mp e), h2, h3, by rw [← ra.length]; exact h4, fun p hp => k.tup z pl (ra.rep _) hp⟩)))
    · cases hc
  · cases hc
theorem op2_fdiv : Op2 S (rI CDivW fun i j => .int (i / j)) fdivD := by
  intro W H g x y d e c Q z pl rx ry hc k
  unfold fdivD at hc
  split at hc
  · split at hc
    · cases hc
      exact ⟨_, _, rx, ry, cb_iff.mp (by assumption), k.same z pl rfl⟩
    · cases hc
  · cases hc
theorem op2_mod : Op2 S (rI (fun _ j => 0 < j) fun i j => .int (i % j)) modD := by
  intro W H g x y d e c Q z pl rx ry hc k
  unfold modD at hc
  split at hc
  · split at hc
    · cases hc
      exact ⟨_, _, rx, ry, by assumption, k.same z pl rfl⟩
    · cases hc
  · cases hc
theorem op2_pow : Op2 S (rI CPow fun i j => .int (i ^ j.toNat)) powD := by
  intro W H g x y d e c Q z pl rx ry hc k
  unfold powD at hc
  split at hc
  · split at hc
    · cases hc
      exact ⟨_, _, rx, ry, cb_iff.mp (by assumption), k.same z pl rfl⟩
    · cases hc
  · cases hc
theorem op1_neg : Op1 S (rU fun i => .int (-i)) negD := by
  intro W H g x d c Q z pl rx hc k
  unfold negD at hc
  split at hc
  · cases hc
    exact ⟨_, rx, k.same z pl rfl⟩
  · cases hc

/-! ### data, ==, in -/
mutual
def toP : D → Option PyData
  | .non => some .none
  | .bl b => some (.bool b)
  | .int i => some (.int i)
  | .str x => some (.str x)
  | .tup ds => (toPs ds).map .tuple
  | .lst ds => (toPs ds).map .list
  | _ => none
def toPs : List D → Option (List PyData)
  | [] => some []
  | d :: ds => match toP d, toPs ds with
    | some p, some ps => some (p :: ps)
    | _, _ => none
end
mutual
theorem toP_dp {W : Gh} {H : Hp} (z : ZIn W H) : ∀ (d : D) (v : V) (p : PyData), Rep S W d v → toP d = some p → Dp S.K H v p
  | .non, v, p, r, h => by cases h; obtain rfl : v = .non := r; exact .non
  | .bl b, v, p, r, h => by cases h; obtain rfl : v = .bl b := r; exact .bl b
  | .int i, v, p, r, h => by cases h; obtain rfl : v = .int i := r; exact .int i
  | .str x, v, p, r, h => by cases h; obtain rfl : v = .str x := r; exact .str x
  | .tup ds, v, p, r, h => by
    obtain ⟨a, vs, rfl, ha, ra⟩ := r
    obtain ⟨ps, h1, rfl⟩ := Option.map_eq_some_iff.mp (show (toPs ds).map .tuple = some p from h)
    exact .tup (Rep.sqT z ha) (toPs_dp z ds vs ps ra h1)
  | .lst ds, v, p, r, h => by
    obtain ⟨a, vs, rfl, ha, ra⟩ := r
    obtain ⟨ps, h1, rfl⟩ := Option.map_eq_some_iff.mp (show (toPs ds).map .list = some p from h)
    exact .lst (Rep.sqL z ha) (toPs_dp z ds vs ps ra h1)
  | .obj _ _, _, _, _, h => by cases h
  | .dct _, _, _, _, h => by cases h
  | .con _, _, _, _, h => by cases h
  | .pool, _, _, _, h => by cases h
  | .cel, _, _, _, h => by cases h
  | .scr _, _, _, _, h => by cases h
theorem toPs_dp {W : Gh} {H : Hp} (z : ZIn W H) : ∀ (ds : List D) (vs : List V) (ps : List PyData), Reps S W ds vs → toPs ds = some ps → DpAll S.K H vs ps
  | [], [], _, _, h => by cases h; exact .nil
  | d :: ds, v :: vs, ps, r, h => by
    have h : (match toP d, toPs ds with | some p, some ps => some (p :: ps) | _, _ => none) = some ps := h
    split at h
    · rename_i p qs h1 h2
      cases h
      exact .cons (toP_dp z d v p r.1 h1) (toPs_dp z ds vs qs r.2 h2)
    · cases h
  | [], _ :: _, _, r, _ => r.elim
  | _ :: _, [], _, r, _ => r.elim
end
def eqP (d e : D) : Option Bool := match toP d, toP e with
  | some p, some q => if SeqAt.shaped p && SeqAt.shaped q then some (PyData.eqv p q) else none
  | _, _ => none
def eqD (d e : D) : Option Bool := match d, e with
  | .str x, .str y => some (x == y)
  | _, _ => eqP d e
def flatD : D → Bool
  | .non => true | .bl _ => true | .int _ => true | .str _ => true
  | _ => false
def seqOf : D → Option (List D)
  | .lst ds => some ds
  | .tup ds => some ds
  | _ => none
/-- x in a list, or in a tuple of flat things -/
def inD (d e : D) : Option Bool := match e with
  | .lst ds => match toP d, toPs ds with
    | some p, some ps => if SeqAt.shaped p && SeqAt.shaped (.list ps) then some (ps.any fun z => PyData.eqv z p) else none
    | _, _ => none
  | .tup ds => if flatD d && ds.all flatD then match toP d, toPs ds with
    | some p, some ps => some (ps.any fun z => PyData.eqv z p)
    | _, _ => none else none
  | _ => none
end
end Dv
end
section
set_option maxHeartbeats 1000000
/-! DvDe: a dict among tuples. -/
namespace PySem.SeqAt
open AutoSeq1 (wpAny_loadPart')
open MeetsSeq
theorem no_dict_tuple : isSubtype (.type "dict") (.type "tuple") = pure false := by rw [isSubtype_type]; kernel_rfl
theorem no_tuple_dict : isSubtype (.type "tuple") (.type "dict") = pure false := by rw [isSubtype_type]; kernel_rfl
theorem tuple_no_dict (l d : Addr) (its : Array Value) (n : Nat) (x1 x2 : Option Addr) (y1 y2 : Array (Option Value)) (es : Array DictEntry) (ep : Nat) :
    Meets (Builtin.«tuple.__eq__» ⟨[.ref l, .ref d], []⟩) (fun _ R s => s.heap.get? l = some { cls := .type "tuple", dict := x1, data := .seq its n, slots := y1 } ∧ s.heap.get? d = some { cls := .type "dict", dict := x2, data := .dict es ep, slots := y2 } ∧ R (.ok (.ret .notImplemented)) s) :=
  .of_wp fun prog w A R s h => by
    obtain ⟨hp, g, dr, tk, os⟩ := s
    obtain ⟨hl, hd, h⟩ := h
    have f1 := no_dict_tuple
    wp_walk using wpAny_loadPart' hl, wpAny_loadPart' hd
    exact ⟨_, rfl, h⟩
theorem dict_no_tuple (l d : Addr) (its : Array Value) (n : Nat) (x1 x2 : Option Addr) (y1 y2 : Array (Option Value)) (es : Array DictEntry) (ep : Nat) :
    Meets (Builtin.«dict.__eq__» ⟨[.ref d, .ref l], []⟩) (fun _ R s => s.heap.get? l = some { cls := .type "tuple", dict := x1, data := .seq its n, slots := y1 } ∧ s.heap.get? d = some { cls := .type "dict", dict := x2, data := .dict es ep, slots := y2 } ∧ R (.ok (.ret .notImplemented)) s) :=
  .of_wp fun prog w A R s h => by
    obtain ⟨hp, g, dr, tk, os⟩ := s
    obtain ⟨hl, hd, h⟩ := h
    have f1 := no_tuple_dict
    wp_walk using wpAny_loadPart' hl, wpAny_loadPart' hd
    exact ⟨_, rfl, h⟩
section
variable {A : Around} {s : Shared}
theorem tup_dict_at {l d : Addr} {o1 o2 : Obj} {its : Array Value} {n ep : Nat} {es : Array DictEntry} (h1 : s.heap.get? l = some o1) (c1 : o1.cls = .type "tuple") (d1 : o1.data = .seq its n) (h2 : s.heap.get? d = some o2) (c2 : o2.cls = .type "dict") (d2 : o2.data = .dict es ep)
    (hne : l ≠ d) (hu : A.units < cLine) : EqAt A s (.ref l) (.ref d) false := by
  obtain ⟨k1, x1, t1, y1⟩ := o1
  obtain ⟨k2, x2, t2, y2⟩ := o2
  simp only at c1 d1 c2 d2
  subst c1 d1 c2 d2
  refine EqAt.of_refs hne fun prog w E Q h => ?_
  exact rc_eq_decline_or (k := false) ⟨_, h1, rfl⟩ ⟨_, h2, rfl⟩ (by decide) no_dict_tuple F.slot_tuple_eq F.slot_dict_eq_refl
    (fun _ hq => call_meets F.slot_tuple_eq ⟨_, h1, rfl⟩ F.entry_tuple_eq (F.args_tuple_eq_2 _ _) (tuple_no_dict l d its n x1 x2 y1 y2 es ep) ⟨h1, h2, hq⟩)
    (fun _ hq => call_meets F.slot_dict_eq_refl ⟨_, h2, rfl⟩ F.entry_dict_eq (F.args_dict_eq_2 _ _) (dict_no_tuple l d its n x1 x2 y1 y2 es ep) ⟨h1, h2, hq⟩)
    (fun _ hq => wpAny_isSame_ref_other' hne h1 h2 (by simp) hq) (.inr hu) h
end
end PySem.SeqAt
namespace Dv
open PySem PySem.Spec PyProof.Rows L2
/-- a dict in a list of tuples: not there -/
def rInDct : R2 := fun x y H Q => ∃ (a b : Addr) (kvs : List (Key × V)) (vs : List V), x = .ref a ∧ H a = some (.dK kvs) ∧ y = .ref b ∧ H b = some (.lst vs) ∧ (∀ v ∈ vs, ∃ t us, v = .ref t ∧ H t = some (.tup us)) ∧ Q (.bl false) H
theorem vals_mem : ∀ {vs : List V} {us : List Value}, Vals vs us → ∀ u ∈ us, ∃ v ∈ vs, RelV v u
  | _, _, .nil, _, h => by cases h
  | _, _, .cons r t, u, h => by
    rcases List.mem_cons.mp h with e | h
    · rw [e]; exact ⟨_, List.mem_cons_self, r⟩
    · obtain ⟨v, hv, q⟩ := vals_mem t u h
      exact ⟨v, List.mem_cons_of_mem _ hv, q⟩
theorem op_inDct {X : Cx} (hu : X.A.units + 65 < cLine) : OpR X (compareOp .In) rInDct := by
  intro pins s σ H x y v u Q I rx ry h
  obtain ⟨a, b, kvs, vs, rfl, ha, rfl, hb, ht, q⟩ := h
  cases rx
  cases ry
  obtain ⟨its, rv, hl, _⟩ := I.list (.inl (.inl hb))
  obtain ⟨_, _, ws, _, o2, es, ep, g2, c2, d2, _⟩ := dk_of I.hok ha
  have all : (its.toArray.any fun _ => false) = false := by simp
  refine SeqAt.in_listAt (fun _ => false) hl.isList (fun z hz => ?_) ?_
  · obtain ⟨v, hv, rz⟩ := vals_mem rv z (by simpa using hz)
    obtain ⟨t, us, rfl, hT⟩ := ht v hv
    obtain rfl : z = Value.ref t := rz
    obtain ⟨_, ts, _, o1, g1, c1, n1, d1⟩ := I.hok t _ hT
    exact SeqAt.tup_dict_at g1 c1 d1 g2 c2.1 d2 (fun e => by rw [e, ha] at hT; cases hT) (by show X.A.units + 1 < cLine; omega)
  · rw [all]
    exact ⟨.bl false, H, I, rfl, q⟩
def rNotInDct : R2 := fun x y H Q => ∃ (a b : Addr) (kvs : List (Key × V)) (vs : List V), x = .ref a ∧ H a = some (.dK kvs) ∧ y = .ref b ∧ H b = some (.lst vs) ∧ (∀ v ∈ vs, ∃ t us, v = .ref t ∧ H t = some (.tup us)) ∧ Q (.bl true) H
theorem op_notInDct {X : Cx} (hu : X.A.units + 65 < cLine) : OpR X (compareOp .NotIn) rNotInDct := by
  intro pins s σ H x y v u Q I rx ry h
  obtain ⟨a, b, kvs, vs, rfl, ha, rfl, hb, ht, q⟩ := h
  cases rx
  cases ry
  obtain ⟨its, rv, hl, _⟩ := I.list (.inl (.inl hb))
  obtain ⟨_, _, ws, _, o2, es, ep, g2, c2, d2, _⟩ := dk_of I.hok ha
  have all : (its.toArray.any fun _ => false) = false := by simp
  refine SeqAt.notIn_listAt (fun _ => false) hl.isList (fun z hz => ?_) ?_
  · obtain ⟨v, hv, rz⟩ := vals_mem rv z (by simpa using hz)
    obtain ⟨t, us, rfl, hT⟩ := ht v hv
    obtain rfl : z = Value.ref t := rz
    obtain ⟨_, ts, _, o1, g1, c1, n1, d1⟩ := I.hok t _ hT
    exact SeqAt.tup_dict_at g1 c1 d1 g2 c2.1 d2 (fun e => by rw [e, ha] at hT; cases hT) (by show X.A.units + 1 < cLine; omega)
  · rw [all]
    exact ⟨.bl true, H, I, rfl, q⟩
end Dv
end
section
set_option maxHeartbeats 400000
/-! DvC: comparisons, truth, built-in calls by values, iterables, comprehensions. -/
namespace Dv
open PySem PySem.Spec PyProof.Rows L2

/-! ### comparisons -/
def toV : D → V
  | .bl b => .bl b
  | .int i => .int i
  | .str x => .str x
  | _ => .non
/-- x in a list; in a tuple of flat things -/
def inD0 (d e : D) : Option Bool := match e with
  | .lst ds => match toP d, toPs ds with
    | some p, some ps => if SeqAt.shaped p && SeqAt.shaped (.list ps) then some (ps.any fun z => PyData.eqv z p) else none
    | _, _ => none
  | .tup ds => if flatD d && ds.all flatD then some (ds.any fun z => eqV (toV z) (toV d)) else none
  | _ => none
def isTp : D → Bool
  | .tup _ => true
  | _ => false
def isDc : D → Bool
  | .dct _ => true
  | _ => false
def inDD (d e : D) : Option Bool := match inD0 d e with
  | some b => some b
  | none => match e with
    | .lst ds => if flatD d && ds.all flatD then some (ds.any fun z => eqV (toV z) (toV d)) else if isDc d && ds.all isTp then some false else none
    | _ => none
theorem inDD_of {d e : D} {b : Bool} (h : inD0 d e = some b) : inDD d e = some b := by
  unfold inDD
  rw [h]
def intCmp (f : Int → Int → Bool) : D → D → Option Bool
  | .int i, .int j => some (f i j)
  | _, _ => none
def isNon : D → Bool
  | .non => true
  | _ => false
def isCon : D → Bool
  | .con _ => true
  | _ => false
def isB2 (d e : D) : Option Bool := match d, e with
  | .bl a, .bl b => some (a == b)
  | _, _ => none
def isD (d e : D) : Option Bool := if isNon e && !isCon d then some (isNon d) else isB2 d e
def cmpD (op : CmpOp) (d e : D) : Option Bool := match op with
  | .Lt => intCmp (fun i j => decide (i < j)) d e
  | .LtE => intCmp (fun i j => decide (i ≤ j)) d e
  | .Gt => intCmp (fun i j => decide (j < i)) d e
  | .GtE => intCmp (fun i j => decide (j ≤ i)) d e
  | .Eq => eqD d e
  | .NotEq => (eqD d e).map (!·)
  | .Is => isD d e
  | .IsNot => (isD d e).map (!·)
  | .In => inDD d e
  | .NotIn => (inDD d e).map (!·)
def cmpO (op : CmpOp) (d e : D) : Option D := (cmpD op d e).map .bl
section
variable {S : Sx} {X : Cx} {Wx : WX}
theorem flat_rep {W : Gh} {d : D} {v : V} (h : flatD d = true) (r : Rep S W d v) : v = toV d ∧ flatV v = true := by
  cases d <;> first
    | (obtain rfl : v = _ := r; exact ⟨rfl, rfl⟩)
    | cases h
theorem flats_rep {W : Gh} : ∀ {ds : List D} {vs : List V}, ds.all flatD = true → Reps S W ds vs → vs = ds.map toV ∧ vs.all flatV = true
  | [], [], _, _ => ⟨rfl, rfl⟩
  | d :: ds, v :: vs, h, r => by
    simp only [List.all_cons, Bool.and_eq_true] at h
    obtain ⟨e1, f1⟩ := flat_rep h.1 r.1
    obtain ⟨e2, f2⟩ := flats_rep h.2 r.2
    refine ⟨by rw [e1, e2]; rfl, ?_⟩
    simp only [List.all_cons, Bool.and_eq_true]
    exact ⟨f1, f2⟩
  | [], _ :: _, _, r => r.elim
  | _ :: _, [], _, r => r.elim
theorem isNon_rep {W : Gh} {v : V} : ∀ (d : D), Rep S W d v → isCon d = false → decide (v = .non) = isNon d
  | .non, r, _ => by obtain rfl : v = _ := r; rfl
  | .bl _, r, _ => by obtain rfl : v = _ := r; rfl
  | .int _, r, _ => by obtain rfl : v = _ := r; rfl
  | .str _, r, _ => by obtain rfl : v = _ := r; rfl
  | .tup _, ⟨_, _, e, _⟩, _ => by subst e; rfl
  | .lst _, ⟨_, _, e, _⟩, _ => by subst e; rfl
  | .obj _ _, ⟨_, _, _, e, _⟩, _ => by subst e; rfl
  | .dct _, ⟨_, _, e, _⟩, _ => by subst e; rfl
  | .con _, _, h => by cases h
  | .pool, ⟨_, _, _, e⟩, _ => by subst e; rfl
  | .cel, ⟨_, _, _, e⟩, _ => by subst e; rfl
  | .scr _, ⟨_, e, _⟩, _ => by subst e; rfl
theorem non_rep {W : Gh} {v : V} {d : D} (h : isNon d = true) (r : Rep S W d v) : v = .non := by
  cases d <;> first
    | exact r
    | cases h
def rInA (K : PySem.W.Frag) : R2 := fun x y H Q => (rInD K x y H Q ∨ rIn K false x y H Q) ∨ rInDct x y H Q
def rNotInA (K : PySem.W.Frag) : R2 := fun x y H Q => (rNotInD K x y H Q ∨ rIn K true x y H Q) ∨ rNotInDct x y H Q
theorem inD0_in {W : Gh} {H : Hp} {d e : D} {x y : V} {b : Bool} (z : ZIn W H) (rx : Rep S W d x) (ry : Rep S W e y) (h : inD0 d e = some b) :
    (∃ p ps, Dp S.K H x p ∧ Dp S.K H y (.list ps) ∧ SeqAt.shaped p = true ∧ SeqAt.shaped (.list ps) = true ∧ b = ps.any fun z => PyData.eqv z p) ∨
      ∃ p xs, y = .ref p ∧ SqT S.K H p xs ∧ flatV x = true ∧ xs.all flatV = true ∧ b = inV x xs := by
  unfold inD0 at h
  split at h
  · rename_i ds
    split at h
    · rename_i p ps h1 h2
      split at h
      · rename_i hs
        cases h
        simp only [Bool.and_eq_true] at hs
        exact .inl ⟨p, ps, toP_dp z _ _ _ rx h1, toP_dp z (.lst ds) _ (.list ps) ry (by show (toPs ds).map PyData.list = _; rw [h2]; rfl), hs.1, hs.2, rfl⟩
      · cases h
    · cases h
  · rename_i ds
    split at h
    · rename_i hf
      cases h
      simp only [Bool.and_eq_true] at hf
      obtain ⟨a, vs, rfl, ha, ra⟩ := ry
      obtain ⟨e1, f1⟩ := flat_rep hf.1 rx
      obtain ⟨e2, f2⟩ := flats_rep hf.2 ra
      refine .inr ⟨a, vs, rfl, Rep.sqT z ha, f1, f2, ?_⟩
      rw [inV, e2, e1, List.any_map]
      rfl
    · cases h
  · cases h
theorem inD_in {W : Gh} {H : Hp} {d e : D} {x y : V} {b : Bool} (z : ZIn W H) (rx : Rep S W d x) (ry : Rep S W e y) (h : inDD d e = some b) :
    (∃ p ps, Dp S.K H x p ∧ Dp S.K H y (.list ps) ∧ SeqAt.shaped p = true ∧ SeqAt.shaped (.list ps) = true ∧ b = ps.any fun z => PyData.eqv z p) ∨
      (∃ p xs, y = .ref p ∧ (SqL S.K H p xs ∨ SqT S.K H p xs) ∧ flatV x = true ∧ xs.all flatV = true ∧ b = inV x xs) ∨
      ∃ (a c : Addr) (kvs : List (Key × V)) (vs : List V), x = .ref a ∧ H a = some (.dK kvs) ∧ y = .ref c ∧ H c = some (.lst vs) ∧ (∀ v ∈ vs, ∃ t us, v = .ref t ∧ H t = some (.tup us)) ∧ b = false := by
  unfold inDD at h
  split at h
  · rename_i b0 h0
    cases h
    rcases inD0_in z rx ry h0 with h | ⟨p, xs, h1, h2, h3, h4, h5⟩
    · exact .inl h
    · exact .inr (.inl ⟨p, xs, h1, .inr h2, h3, h4, h5⟩)
  · split at h
    · rename_i ds
      split at h
      · rename_i hf
        cases h
        simp only [Bool.and_eq_true] at hf
        obtain ⟨a, vs, rfl, ha, ra⟩ := ry
        obtain ⟨e1, f1⟩ := flat_rep hf.1 rx
        obtain ⟨e2, f2⟩ := flats_rep hf.2 ra
        refine .inr (.inl ⟨a, vs, rfl, .inl (Rep.sqL z ha), f1, f2, ?_⟩)
        rw [inV, e2, e1, List.any_map]
        rfl
      · split at h
        · rename_i hd
          cases h
          obtain ⟨h1, h2⟩ := Bool.and_eq_true_iff.mp hd
          obtain ⟨c, vs, rfl, hc, rc⟩ := ry
          cases d with
          | dct kvs =>
            obtain ⟨a, kv', rfl, ha, _⟩ := rx
            refine .inr (.inr ⟨a, c, kv', vs, rfl, z _ _ ha, rfl, z _ _ hc, fun v hv => ?_, rfl⟩)
            obtain ⟨i, hi, e⟩ := List.mem_iff_getElem.mp hv
            obtain ⟨d', hd', rd⟩ := rc.getV (i := i) (v := v) (by rw [List.getElem?_eq_getElem hi, e])
            have hm := List.mem_of_getElem? hd'
            have ht := List.all_eq_true.mp h2 d' hm
            cases d' with
            | tup xs =>
              obtain ⟨t, us, rfl, hz, _⟩ := rd
              exact ⟨t, us, rfl, z _ _ hz⟩
            | _ => cases ht
          | _ => cases h1
        · cases h
    · cases h
theorem op2_int {f : Int → Int → Bool} {op : CmpOp} (h : ∀ d e, cmpD op d e = intCmp f d e) : Op2 S (rI0 fun i j => .bl (f i j)) (cmpO op) := by
  intro W H g x y d e c Q z pl rx ry hc k
  obtain ⟨b, hb, rfl⟩ := Option.map_eq_some_iff.mp hc
  rw [h] at hb
  unfold intCmp at hb
  split at hb
  · cases hb
    exact ⟨_, _, rx, ry, k.same z pl rfl⟩
  · cases hb
theorem eqP_dp {W : Gh} {H : Hp} {d e : D} {x y : V} {b : Bool} (z : ZIn W H) (rx : Rep S W d x) (ry : Rep S W e y) (h : eqP d e = some b) :
    ∃ p q, Dp S.K H x p ∧ Dp S.K H y q ∧ SeqAt.shaped p = true ∧ SeqAt.shaped q = true ∧ b = PyData.eqv p q := by
  unfold eqP at h
  split at h
  · rename_i p q h1 h2
    split at h
    · rename_i hs
      cases h
      simp only [Bool.and_eq_true] at hs
      exact ⟨p, q, toP_dp z _ _ _ rx h1, toP_dp z _ _ _ ry h2, hs.1, hs.2, rfl⟩
    · cases h
  · cases h
theorem eqD_of {d e : D} {b : Bool} (h : eqP d e = some b) : eqD d e = some b := by
  unfold eqD
  split
  · rename_i x y
    have h : (if SeqAt.shaped (.str x) && SeqAt.shaped (.str y) then some (PyData.eqv (.str x) (.str y)) else none) = some b := h
    split at h
    · rw [← h]
      simp only [PyData.eqv]
    · cases h
  · exact h
def rEqA (K : PySem.W.Frag) : R2 := fun x y H Q => rEqD K x y H Q ∨ rEq x y H Q
def rNeA (K : PySem.W.Frag) : R2 := fun x y H Q => rNeD K x y H Q ∨ rNe x y H Q
theorem eqD_dp {W : Gh} {H : Hp} {d e : D} {x y : V} {b : Bool} (z : ZIn W H) (rx : Rep S W d x) (ry : Rep S W e y) (h : eqD d e = some b) :
    (∃ p q, Dp S.K H x p ∧ Dp S.K H y q ∧ SeqAt.shaped p = true ∧ SeqAt.shaped q = true ∧ b = PyData.eqv p q) ∨ scal x y = true ∧ b = decide (x = y) := by
  unfold eqD at h
  split at h
  · cases h
    obtain rfl : x = _ := rx
    obtain rfl : y = _ := ry
    exact .inr ⟨rfl, dec_str.symm⟩
  · exact .inl (eqP_dp z rx ry h)
theorem op2_eq : Op2 S (rEqA S.K) (cmpO .Eq) := by
  intro W H g x y d e c Q z pl rx ry hc k
  obtain ⟨b, hb, rfl⟩ := Option.map_eq_some_iff.mp hc
  rcases eqD_dp z rx ry (show eqD d e = some b from hb) with ⟨p, q, h1, h2, h3, h4, rfl⟩ | ⟨h1, rfl⟩
  · exact .inl ⟨p, q, h1, h2, h3, h4, k.same z pl rfl⟩
  · exact .inr ⟨h1, k.same z pl rfl⟩
theorem op2_ne : Op2 S (rNeA S.K) (cmpO .NotEq) := by
  intro W H g x y d e c Q z pl rx ry hc k
  obtain ⟨b, hb, rfl⟩ := Option.map_eq_some_iff.mp hc
  obtain ⟨b', hb', rfl⟩ := Option.map_eq_some_iff.mp (show (eqD d e).map (!·) = some b from hb)
  rcases eqD_dp z rx ry hb' with ⟨p, q, h1, h2, h3, h4, rfl⟩ | ⟨h1, rfl⟩
  · exact .inl ⟨p, q, h1, h2, h3, h4, k.same z pl rfl⟩
  · exact .inr ⟨h1, k.same z pl rfl⟩
def rIsA : R2 := fun x y H Q => (y = .non ∧ Q (.bl (decide (x = .non))) H) ∨ rIsB x y H Q
def rIsNA : R2 := fun x y H Q => (y = .non ∧ Q (.bl (!decide (x = .non))) H) ∨ rNotB x y H Q
theorem isD_rep {W : Gh} {d e : D} {x y : V} {b : Bool} (rx : Rep S W d x) (ry : Rep S W e y) (h : isD d e = some b) : (y = .non ∧ decide (x = .non) = b) ∨ ∃ p q : Bool, x = .bl p ∧ y = .bl q ∧ decide (p = q) = b := by
  unfold isD at h
  split at h
  · rename_i hs
    cases h
    simp only [Bool.and_eq_true, Bool.not_eq_true'] at hs
    exact .inl ⟨non_rep hs.1 ry, isNon_rep d rx hs.2⟩
  · cases d with
    | bl p =>
      cases e with
      | bl q =>
        cases h
        obtain rfl : x = .bl p := rx
        obtain rfl : y = .bl q := ry
        exact .inr ⟨p, q, rfl, rfl, by cases p <;> cases q <;> rfl⟩
      | _ => cases h
    | _ => cases h
theorem op2_is : Op2 S rIsA (cmpO .Is) := by
  intro W H g x y d e c Q z pl rx ry hc k
  obtain ⟨b, hb, rfl⟩ := Option.map_eq_some_iff.mp hc
  rcases isD_rep rx ry (show isD d e = some b from hb) with ⟨h1, h2⟩ | ⟨p, q, h1, h2, h3⟩
  · refine .inl ⟨h1, ?_⟩
    rw [h2]
    exact k.same z pl rfl
  · refine .inr ⟨p, q, h1, h2, ?_⟩
    rw [h3]
    exact k.same z pl rfl
theorem op2_isnot : Op2 S rIsNA (cmpO .IsNot) := by
  intro W H g x y d e c Q z pl rx ry hc k
  obtain ⟨b, hb, rfl⟩ := Option.map_eq_some_iff.mp hc
  obtain ⟨b', hb', rfl⟩ := Option.map_eq_some_iff.mp (show (isD d e).map (!·) = some b from hb)
  rcases isD_rep rx ry hb' with ⟨h1, h2⟩ | ⟨p, q, h1, h2, h3⟩
  · refine .inl ⟨h1, ?_⟩
    rw [h2]
    exact k.same z pl rfl
  · refine .inr ⟨p, q, h1, h2, ?_⟩
    rw [h3]
    exact k.same z pl rfl
theorem op_inA (hu : X.A.units + 65 < cLine) : OpR X (compareOp .In) (rInA X.K) := ((op_inD hu).or op_in_seq).or (op_inDct hu)
theorem op_notInA (hu : X.A.units + 65 < cLine) : OpR X (compareOp .NotIn) (rNotInA X.K) := ((op_notInD hu).or op_notIn_seq).or (op_notInDct hu)
theorem op2_in : Op2 S (rInA S.K) (cmpO .In) := by
  intro W H g x y d e c Q z pl rx ry hc k
  obtain ⟨b, hb, rfl⟩ := Option.map_eq_some_iff.mp hc
  rcases inD_in z rx ry (show inDD d e = some b from hb) with ⟨p, ps, h1, h2, h3, h4, rfl⟩ | ⟨p, xs, rfl, h1, h2, h3, rfl⟩ | ⟨a, c, kvs, vs, rfl, h1, rfl, h2, h3, rfl⟩
  · exact .inl (.inl ⟨p, ps, h1, h2, h3, h4, k.same z pl rfl⟩)
  · exact .inl (.inr ⟨p, xs, rfl, h1, h2, h3, k.same z pl rfl⟩)
  · exact .inr ⟨a, c, kvs, vs, rfl, h1, rfl, h2, h3, k.same z pl rfl⟩
theorem op2_notin : Op2 S (rNotInA S.K) (cmpO .NotIn) := by
  intro W H g x y d e c Q z pl rx ry hc k
  obtain ⟨b, hb, rfl⟩ := Option.map_eq_some_iff.mp hc
  obtain ⟨b', hb', rfl⟩ := Option.map_eq_some_iff.mp (show (inDD d e).map (!·) = some b from hb)
  rcases inD_in z rx ry hb' with ⟨p, ps, h1, h2, h3, h4, rfl⟩ | ⟨p, xs, rfl, h1, h2, h3, rfl⟩ | ⟨a, c, kvs, vs, rfl, h1, rfl, h2, h3, rfl⟩
  · exact .inl (.inl ⟨p, ps, h1, h2, h3, h4, k.same z pl rfl⟩)
  · exact .inl (.inr ⟨p, xs, rfl, h1, h2, h3, k.same z pl rfl⟩)
  · exact .inr ⟨a, c, kvs, vs, rfl, h1, rfl, h2, h3, k.same z pl rfl⟩
/-- each comparison has its rule -/
theorem cmp_rule (K : X.K = S.K) (hu : X.A.units + 65 < cLine) (op : CmpOp) : ∃ r, OpR X (compareOp op) r ∧ Op2 S r (cmpO op) := by
  have hu' : X.A.units + 64 < cLine := by omega
  cases op with
  | Lt => exact ⟨_, op_lt, op2_int fun _ _ => rfl⟩
  | LtE => exact ⟨_, op_le, op2_int fun _ _ => rfl⟩
  | Gt => exact ⟨_, op_gt, op2_int (f := fun i j => decide (j < i)) fun _ _ => rfl⟩
  | GtE => exact ⟨_, op_ge, op2_int (f := fun i j => decide (j ≤ i)) fun _ _ => rfl⟩
  | Eq => exact ⟨_, (op_eqD hu').or op_eq, by rw [K]; exact op2_eq⟩
  | NotEq => exact ⟨_, (op_neD hu').or op_ne, by rw [K]; exact op2_ne⟩
  | Is => exact ⟨_, op_isN.or op_isBl, op2_is⟩
  | IsNot => exact ⟨_, op_notN.or op_notBl, op2_isnot⟩
  | In => exact ⟨_, op_inA hu, by rw [K]; exact op2_in⟩
  | NotIn => exact ⟨_, op_notInA hu, by rw [K]; exact op2_notin⟩
def binO (op : Operator) : D → D → Option D := match op with
  | .Add => addD | .Sub => subD | .Mult => mulD | .FloorDiv => fdivD | .Mod => modD | .Pow => powD
  | _ => fun _ _ => none
theorem bin_rule (K : X.K = S.K) (op : Operator) : ∃ r, OpR X (binaryOp op) r ∧ Op2 S r (binO op) := by
  cases op with
  | Add => exact ⟨_, op_addA, by rw [K]; exact op2_add⟩
  | Sub => exact ⟨_, op_sub, op2_sub⟩
  | Mult => exact ⟨_, op_mulA, by rw [K]; exact op2_mul⟩
  | FloorDiv => exact ⟨_, op_fdivW, op2_fdiv⟩
  | Mod => exact ⟨_, op_mod, op2_mod⟩
  | Pow => exact ⟨_, op_pow, op2_pow⟩
  | _ => exact ⟨fun _ _ _ _ => False, fun _ _ _ _ _ _ _ _ _ _ _ _ h => h.elim, fun _ _ _ _ _ _ _ _ _ _ _ _ _ h => by cases h⟩

/-! ### truth -/
def tru : D → Option Bool
  | .non => some false
  | .bl b => some b
  | .int i => some (i != 0)
  | .str x => if x.length ≤ sizeLine then some ((x.length : Int) != 0) else none
  | .tup ds => some (!ds.isEmpty)
  | .lst ds => some (!ds.isEmpty)
  | .dct kvs => some (!kvs.isEmpty)
  | _ => none
theorem RepK.isEmpty {S : Sx} {W : Gh} {ds : List (D × D)} {vs : List (Key × V)} (h : RepK S W ds vs) : vs.isEmpty = ds.isEmpty := by
  cases ds <;> cases vs <;> first | rfl | exact h.elim
theorem Reps.isEmpty {W : Gh} {ds : List D} {vs : List V} (h : Reps S W ds vs) : vs.isEmpty = ds.isEmpty := by
  cases ds <;> cases vs <;> first | rfl | exact h.elim
theorem tru_rep {W : Gh} {H : Hp} {v : V} {k : Bool} (z : ZIn W H) : ∀ (d : D), Rep S W d v → tru d = some k → TruV S.K v H k
  | .non, r, h => by obtain rfl : v = _ := r; cases h; rfl
  | .bl _, r, h => by obtain rfl : v = _ := r; cases h; rfl
  | .int _, r, h => by obtain rfl : v = _ := r; cases h; rfl
  | .str x, r, h => by
    obtain rfl : v = _ := r
    have h : (if x.length ≤ sizeLine then some ((x.length : Int) != 0) else none) = some k := h
    split at h
    · rename_i hl
      exact ⟨hl, (Option.some.inj h).symm⟩
    · cases h
  | .tup ds, ⟨a, vs, e, ha, ra⟩, h => by
    subst e
    exact .inr (.inl ⟨vs, Rep.sqT z ha, by rw [ra.isEmpty]; exact (Option.some.inj h).symm⟩)
  | .lst ds, ⟨a, vs, e, ha, ra⟩, h => by
    subst e
    exact .inl ⟨vs, Rep.sqL z ha, by rw [ra.isEmpty]; exact (Option.some.inj h).symm⟩
  | .dct kvs, ⟨a, vs, e, ha, ra⟩, h => by
    subst e
    exact .inr (.inr ⟨vs, z _ _ ha, by rw [ra.isEmpty]; exact (Option.some.inj h).symm⟩)
  | .obj _ _, _, h => by cases h
  | .con _, _, h => by cases h
  | .pool, _, h => by cases h
  | .cel, _, h => by cases h
  | .scr _, _, h => by cases h
def truM (f : Env → M D) : Env → M Bool := fun env => (f env).bind fun d => .of (tru d)
theorem pt_ofD {e : Expr} {f : Env → M D} (K : X.K = S.K) (h : PE X e (tD S Wx f)) (he : ∀ whole, isTrue e X.env whole = (do let v ← whole; standAt e.pos; holding [v] (truthy v))) : PT X e (tB S Wx (truM f)) :=
  impT (pt_truth h he) fun σ H Q ⟨env, W, g, st, q⟩ => ⟨env, W, g, st, q.bind.mono fun d g1 W1 H1 e1 z1 p1 q1 v rv => by
    obtain ⟨k, hk, q2⟩ := q1.of
    exact ⟨k, by rw [K]; exact tru_rep z1 d rv hk, q2 _ _ .refl z1 p1⟩⟩
end
end Dv
end
section
set_option maxHeartbeats 1000000
/-! DvSt: sorted of a tuple of ints. -/
namespace DvS0
open PySem PyProof.Rows Srt SrtO
section
variable {prog : Program} {w : World} {A : Around} {E : Value → Shared → Prop} {s : Shared}
theorem collect_tup {l : Addr} {o : Obj} {n : Nat} {us : List Value} {Q : List Value → Shared → Prop} (ho : s.heap.get? l = some o) (hc : o.cls = .type "tuple") (hd : o.data = .seq us.toArray n) (hz : us.length ≤ sizeLine)
    (h : Q us { s with heap := (s.heap.push (seqObj "list" #[] 0)).update s.heap.objs.size (Obj.mapSeq (· ++ us.toArray)) }) : wpAny (model prog w) A (collect (.ref l)) Q E s := by
  have old : (s.heap.push (seqObj "list" #[] 0)).get? l = some o := Heap.get?_push_of_some _ ho
  have new : (s.heap.push (seqObj "list" #[] 0)).get? s.heap.objs.size = some (seqObj "list" #[] 0) := Heap.get?_push_size _ rfl
  unfold collect
  refine wpAny_bind (wpAny_runValue (codeAny_builtin entry_proto_collect' ?_))
  show wpAny _ _ (do again (.builtin "list.__iadd__" ⟨[← newList [], Value.ref l], []⟩)) _ _ s
  refine wpAny_bind (wpAny_newList (wpAny_pure ⟨Code.quiet_builtin _ (by decide +kernel), codeAny_builtin entry_list_iadd' ?_⟩))
  show wpAny _ _ (Builtin.List.listExtendWith (Value.ref s.heap.objs.size) (Value.ref l) (Value.ref s.heap.objs.size)) _ _ { s with heap := s.heap.push (seqObj "list" #[] 0) }
  unfold Builtin.List.listExtendWith
  refine wpAny_bind (wpAny_typeOf (T := "tuple") ⟨o, old, hc⟩ ?_)
  have same : (Value.type "tuple" == Value.type "tuple") = true := by rfl
  rw [if_pos (by rw [same]; simp)]
  refine wpAny_bind (listItems_at old hd ?_)
  refine wpAny_bind (listItems_at (xs := #[]) (n := 0) new rfl ?_)
  rw [if_neg (by simp)]
  have room : (#[] ++ us.toArray).size ≤ sizeLine + 1 := by simp only [Array.size_append, List.size_toArray, List.length_nil]; omega
  refine wpAny_bind (listUpdate_at (xs := #[]) (n := 0) new rfl ?_ (Nat.zero_le _) room)
  refine wpAny_pure ?_
  show wpAny (model prog w) A ((load s.heap.objs.size) >>= fun o => match o.data with
      | .seq ys _ => pure ys.toList
      | _ => unsupported "internal:collect") Q E { s with heap := (s.heap.push (seqObj "list" #[] 0)).update s.heap.objs.size (Obj.mapSeq (· ++ us.toArray)) }
  refine wpAny_bind (wpAny_load (get?_update_seq new _) ?_)
  show wpAny _ _ (pure ((#[] : Array Value) ++ us.toArray).toList) Q E _
  have back : ((#[] : Array Value) ++ us.toArray).toList = us := by simp
  rw [back]
  exact wpAny_pure h
theorem sorted_tup {l : Addr} {o : Obj} {n : Nat} {us : List Value} {less : Value → Value → Bool} {Q : Value → Shared → Prop} (O : Swo less) (ho : s.heap.get? l = some o) (hc : o.cls = .type "tuple") (hd : o.data = .seq us.toArray n) (hz : us.length ≤ sizeLine)
    (hS : 2 ≤ us.length → ∀ (h1 : Heap) (a : Addr), h1.get? a = some (seqObj "list" us.toArray 0) → (∀ b u, s.heap.get? b = some u → b ≠ a ∧ h1.get? b = some u) → SortableO prog w A.in1.in1 { s with heap := h1 } a us less)
    (h : ∀ out : List Value, Srtd less out → Stb less out us → Q (.ref (s.heap.objs.size + 1)) { s with heap := sortedAll s.heap us out.toArray }) :
    wpAny (model prog w) A (call (.builtin "sorted") [.ref l]) Q E s := by
  refine Calls.call_function_entry kind_sorted plain_sorted entry_sorted (args_sorted1 _) ?_
  unfold Builtin.«sorted»
  refine wpAny_bind (m := checkCount "sorted" 1 1 _) (wpAny_pure ?_)
  refine wpAny_bind (collect_tup ho hc hd hz ?_)
  refine wpAny_bind (wpAny_newList ?_ hz)
  generalize hG : (s.heap.push (seqObj "list" #[] 0)).update s.heap.objs.size (Obj.mapSeq (· ++ us.toArray)) = G
  have size : G.objs.size = s.heap.objs.size + 1 := by rw [← hG, Heap.size_update, size_push']
  have at_ : (G.push (seqObj "list" us.toArray 0)).get? (s.heap.objs.size + 1) = some (seqObj "list" us.toArray 0) := by
    rw [← size]; exact Heap.get?_push_size _ rfl
  have old : ∀ b u, s.heap.get? b = some u → b ≠ s.heap.objs.size + 1 ∧ (G.push (seqObj "list" us.toArray 0)).get? b = some u := fun b u q => by
    have lt : b < s.heap.objs.size := Heap.lt_size q
    refine ⟨Nat.ne_of_lt (Nat.lt_succ_of_lt lt), Heap.get?_push_of_some _ ?_⟩
    rw [← hG, Heap.get?_update_ne _ _ _ _ (Nat.ne_of_lt lt)]
    exact Heap.get?_push_of_some _ q
  show wpAny _ _ _ _ _ { s with heap := G.push (seqObj "list" us.toArray 0) }
  rw [size]
  refine wpAny_bind (wpAny_holding (wpAny_call_entry slot_list_sort ⟨_, at_, rfl⟩ entry_list_sort (list_sort_ord O at_ hz (fun h2 => hS h2 _ _ at_ old) fun out hs hb => ⟨_, rfl, ?_⟩) (args_list_sort _)))
  refine wpAny_pure ⟨_, rfl, ?_⟩
  have fin := h out hs hb
  unfold sortedAll at fin
  rw [hG] at fin
  exact fin
end
end DvS0
namespace L2
open PySem PySem.Spec PyProof.Rows
def rSortedTu (K : PySem.W.Frag) : List V → Hp → VK → Prop := fun vs H Q => ∃ (a : Addr) (ns : List Int), vs = [V.ref a] ∧ SqT K H a (ns.map V.int) ∧
  ∀ (ms : List Int) (p : Addr), ms.Perm ns → ms.Pairwise (· ≤ ·) → H p = none → Q (.ref p) (upd H p (.lst (ms.map V.int)))
theorem cr_sortedTu {X : Cx} : CallR X (.builtin "sorted") (rSortedTu X.K) := by
  intro pins s σ H vs us Q I r h
  obtain ⟨a, ns, rfl, hs, q⟩ := h
  obtain ⟨its, rv, ⟨o, ho, hc, n, hd⟩, hz⟩ := I.tuple hs
  rw [Vals.ref1 r]
  have ia := rv.ints
  have hzl : its.length ≤ sizeLine := by rw [← rv.length]; exact hz
  refine DvS0.sorted_tup SrtO.swo_int ho hc hd hzl (fun h2 _ _ _ _ => SrtO.ints_sortable ia h2) fun out h1 h2 => ?_
  obtain ⟨k1, k2, k3⟩ := SrtO.ints_out ia h1 h2
  obtain ⟨ep, at_⟩ := PyProof.Rows.sortedAll_at s.heap its out.toArray
  have fit : ((out.map SrtO.iv).map V.int).length ≤ sizeLine := by
    rw [List.length_map] at hz ⊢
    rw [k2.length_eq]; exact hz
  refine ⟨.ref (s.heap.objs.size + 1), upd H (s.heap.objs.size + 1) (.lst ((out.map SrtO.iv).map V.int)), I.laid (t' := s.toks) (fun _ _ => PyProof.Rows.sortedAll_old) (Nat.le_succ _) ⟨fit, out, ep, vals_of_ints k1, at_⟩, rfl, ?_⟩
  exact q _ _ k2 k3 (I.hok.fresh (Nat.le_succ _))
end L2
end
section
set_option maxHeartbeats 1000000
/-! DvSw: sorted of a list of tuples that begin with a text, ints behind it. -/
namespace DvS1
open PySem PyProof.Rows Srt SrtO
abbrev Ky := List (Int ⊕ List Nat)
def shp (i : Nat) : Bool := i == 0
def ltK (p q : Ky) : Bool := lexLt itemOrd p q
theorem swo_k {α : Type} (k : α → Ky) : Swo fun v u => ltK (k v) (k u) := by
  refine ⟨fun x y h => ?_, fun x y z h1 h2 => ?_⟩
  · rcases bcase (ltK (k y) (k x)) with q | q
    · have := lex_trans (O := itemOrd) _ _ _ h q
      rw [lex_irrefl] at this
      cases this
    · exact q
  · rcases bcase (ltK (k z) (k x)) with q | q
    · rcases lex_negTrans (O := itemOrd) (k z) (k y) (k x) q with r | r
      · have h2' : lexLt itemOrd (k z) (k y) = false := h2
        rw [h2'] at r; cases r
      · have h1' : lexLt itemOrd (k y) (k x) = false := h1
        rw [h1'] at r; cases r
    · exact q
/-- a tuple in the heap, a text ahead, its key -/
def IsWd (h : Heap) (v : Value) (l : Ky) : Prop := ∃ a o xs n x t, v = .ref a ∧ h.get? a = some o ∧ o.cls = .type "tuple" ∧ o.data = .seq xs n ∧ xs[0]? = some (.str x t) ∧ tupItems shp 0 xs.toList = some l
theorem IsWd.keeps {h h' : Heap} {v : Value} {l : Ky} (i : IsWd h v l) (k : ∀ b o, h.get? b = some o → o.cls = .type "tuple" → h'.get? b = some o) : IsWd h' v l := by
  obtain ⟨a, o, xs, n, x, t, e, ho, hc, hd, hx, ht⟩ := i
  exact ⟨a, o, xs, n, x, t, e, k a o ho hc, hc, hd, hx, ht⟩
theorem IsWd.key {h : Heap} {v : Value} {l : Ky} (i : IsWd h v l) : (tupKind h shp).keyOf v = some l := by
  obtain ⟨a, o, xs, n, x, t, rfl, ho, hc, hd, hx, ht⟩ := i
  show tupKey h shp (.ref a) = some l
  simp only [tupKey, ho, hd]
  exact ht
theorem tups_of {h : Heap} {k : Value → Ky} : ∀ {vs : List Value}, (∀ v ∈ vs, IsWd h v (k v)) → ∃ fs, fs.length = vs.length ∧ TupsOf h shp vs fs
  | [], _ => ⟨[], rfl, .nil⟩
  | v :: vs, hp => by
    obtain ⟨fs, hl, ht⟩ := tups_of fun u hu => hp u (List.mem_cons_of_mem _ hu)
    obtain ⟨a, o, xs, n, x, t, e, ho, hc, hd, hx, _⟩ := hp v List.mem_cons_self
    exact ⟨.str x t :: fs, by simp [hl], .cons ⟨a, o, xs, n, e, ho, hc, hd, hx, ⟨fun (q : shp 0 = false) => (Bool.noConfusion q), fun _ => ⟨x, t, rfl⟩⟩⟩ ht⟩
section
variable {prog : Program} {w : World} {A : Around} {E : Value → Shared → Prop} {s : Shared}
theorem words_sortable {a : Addr} {vs : List Value} {k : Value → Ky} (h0 : 0 < vs.length) (hp : ∀ v ∈ vs, IsWd s.heap v (k v)) (ha : ∀ o, s.heap.get? a = some o → o.cls ≠ .type "tuple") : SortableO prog w A s a vs fun v u => ltK (k v) (k u) := by
  intro h' keep
  have hp' : ∀ v ∈ vs, IsWd h' v (k v) := fun v hm => (hp v hm).keeps fun b o e c => keep b o (fun z => by subst z; exact ha o e c) e
  obtain ⟨fs, hl, ht⟩ := tups_of hp'
  refine ⟨tuples' true, fun Q E hq => tup_kind (s := { s with heap := h' }) (by omega) ht hq, fun p q hm hm' => ?_⟩
  exact tup_ltAt (s := { s with heap := h' }) (shape := shp) true A _ p.1 q.1 (k p.1) (k q.1) (hp' _ hm).key (hp' _ hm').key ⟨rfl, rfl⟩
theorem sorted_words {l : Addr} {vs : List Value} {k : Value → Ky} {Q : Value → Shared → Prop} (hl : s.heap.IsList l vs.toArray) (hz : vs.length ≤ sizeLine) (hp : ∀ v ∈ vs, IsWd s.heap v (k v))
    (h : ∀ (h' : Heap) (d : Addr) (out : List Value), Srtd (fun v u => ltK (k v) (k u)) out → Stb (fun v u => ltK (k v) (k u)) out vs → (∀ b o, s.heap.get? b = some o → h'.get? b = some o) → s.heap.objs.size ≤ d → (∃ n, h'.get? d = some (seqObj "list" out.toArray n)) → Q (.ref d) { s with heap := h' }) :
    wpAny (model prog w) A (call (.builtin "sorted") [.ref l]) Q E s := by
  refine sorted_ord (swo_k k) hl hz (fun h2 h₁ a ha kk => ?_) fun out hs hb => ?_
  · refine words_sortable (s := { s with heap := h₁ }) (by omega) (fun v hm => (hp v hm).keeps fun b o e _ => (kk b o e).2) fun o e => ?_
    have e' : some o = some (seqObj "list" vs.toArray 0) := e.symm.trans ha
    cases e'
    intro c
    exact absurd (Value.type.inj c) (by decide)
  · exact h _ _ out hs hb (fun b o e => sortedAll_old e) (Nat.le_succ _) (sortedAll_at s.heap vs out.toArray)
end
end DvS1
namespace L2
open PySem PySem.Spec PyProof.Rows
abbrev Wd := Str × List Int
def keyW (p : Wd) : DvS1.Ky := Sum.inr p.1.cps.toList :: p.2.map Sum.inl
abbrev ltW (k : V → Wd) (x y : V) : Bool := DvS1.ltK (keyW (k x)) (keyW (k y))
theorem ltW_swo (k : V → Wd) : SrtO.Swo (ltW k) := DvS1.swo_k fun v => keyW (k v)
theorem items_ints : ∀ (ns : List Int) (us : List Value) (i : Nat), Vals (ns.map V.int) us → 0 < i → tupItems DvS1.shp i us = some (ns.map Sum.inl)
  | [], [], _, _, _ => by simp [tupItems]
  | [], _ :: _, _, h, _ => by cases h
  | n :: ns, us, i, h, hi => by
    cases h with
    | cons r rr =>
      obtain ⟨t, rfl⟩ := r
      have e := items_ints ns _ (i + 1) rr (by omega)
      have hs : DvS1.shp i = false := by unfold DvS1.shp; exact beq_false_of_ne (by omega)
      simp [tupItems, hs, e]
/-- sorted(xs), xs a list of such tuples -/
def rSortedW (K : PySem.W.Frag) : List V → Hp → VK → Prop := fun vs H Q => ∃ (a : Addr) (xs : List V) (k : V → Wd), vs = [V.ref a] ∧ SqL K H a xs ∧ (∀ x ∈ xs, ∃ t, x = V.ref t ∧ H t = some (.tup (.str (k x).1 :: (k x).2.map V.int))) ∧
  ∀ ys p, SrtO.Srtd (ltW k) ys → SrtO.Stb (ltW k) ys xs → H p = none → Q (.ref p) (upd H p (.lst ys))
section
variable {X : Cx}
theorem cr_sortedW : CallR X (.builtin "sorted") (rSortedW X.K) := by
  intro pins s σ H vs us Q I r h
  obtain ⟨a, xs, k, rfl, hs, hx, q⟩ := h
  obtain ⟨its, rv, hl, hz⟩ := I.list hs
  obtain ⟨u, rfl, ru⟩ := vals1 r
  obtain rfl : u = Value.ref a := ru
  obtain ⟨e1, e2⟩ := refs_back rv fun x m => by
    obtain ⟨t, e, _⟩ := hx x m
    exact ⟨t, e⟩
  refine DvS1.sorted_words (k := fun u => keyW (k (backV u))) hl.isList (by rw [← rv.length]; exact hz) (fun v hv => ?_) fun h' d out h1 h2 kp hd hn => ?_
  · obtain ⟨t, rfl⟩ := e2 v hv
    have hm : V.ref t ∈ xs := by rw [e1]; exact List.mem_map.mpr ⟨_, hv, rfl⟩
    obtain ⟨t', e, ht⟩ := hx _ hm
    cases e
    obtain ⟨_, its2, r2, o, ho, hc, n, hd⟩ := I.hok _ _ ht
    cases r2 with
    | cons r r2 =>
      obtain ⟨t1, rfl⟩ := r
      refine ⟨t, o, _, n, (k (backV (.ref t))).1, t1, rfl, ho, hc, hd, rfl, ?_⟩
      have e := items_ints _ _ 1 r2 (by decide)
      have hs : DvS1.shp 0 = true := rfl
      simp [tupItems, hs, e, keyW, backV]
  · have h3 : ∀ u ∈ out, ∃ a, u = Value.ref a := fun u hu => e2 u (h2.perm.mem_iff.mp hu)
    obtain ⟨n, hn⟩ := hn
    have hb : SrtO.Stb (ltW k) (out.map backV) xs := by
      rw [e1]
      exact SrtO.Stb.map (ltW_swo k) backV h2
    refine ⟨.ref d, upd H d (.lst (out.map backV)), I.laid (t' := s.toks) kp hd ⟨?_, out, n, vals_back h3, hn⟩, rfl, q _ d (SrtO.srtd_map h1) hb (I.hok.fresh hd)⟩
    rw [hb.len]
    exact hz
end
end L2
end
section
set_option maxHeartbeats 1000000
/-! DvXt: a list extended by a tuple. -/
namespace L2
open PySem PySem.Spec PyProof.Rows
def rExtendT (K : PySem.W.Frag) : V → List V → Hp → VK → Prop := fun x vs H Q => ∃ l b xs zs, x = .ref l ∧ vs = [.ref b] ∧ H l = some (.lst xs) ∧ SqT K H b zs ∧ xs.length + zs.length ≤ sizeLine ∧ Q .non (upd H l (.lst (xs ++ zs)))
theorem mt_extendT {X : Cx} : MtM X "list.extend" (rExtendT X.K) := by
  intro pins s σ H x vs v us Q I rx rv h
  obtain ⟨l, b, xs, zs, rfl, rfl, hH, hB, hz, q⟩ := h
  cases rx
  obtain ⟨u, rfl, ru⟩ := rv.one
  cases ru
  obtain ⟨z, its, n, r, hl, e⟩ := I.lstM hH
  obtain ⟨its2, r2, ⟨o, ho, hc, n2, hd⟩, hl2⟩ := I.tuple hB
  have hl2' := r2.length
  have hsz : its.toArray.size + its2.toArray.size ≤ sizeLine := by rw [List.size_toArray, List.size_toArray]; omega
  have hlong : ¬ (!its.toArray.isEmpty && Builtin.List.listTooLong (its.toArray.size + its2.toArray.size)) = true := by
    rw [notLongL hsz, Bool.and_false]
    exact Bool.false_ne_true
  refine wpAny_call_entry F.slot_list_extend ⟨_, e, rfl⟩ F.entry_list_extend ?_ (F.args_list_extend_2 _ _)
  show wpAny _ _ (Builtin.List.listExtendWith (Value.ref l) (Value.ref b) Value.none) _ _ s
  unfold Builtin.List.listExtendWith
  refine wpAny_bind (wpAny_typeOf (T := "tuple") ⟨o, ho, hc⟩ ?_)
  have same : (Value.type "tuple" == Value.type "tuple") = true := by rfl
  rw [if_pos (by rw [same]; simp)]
  refine wpAny_bind (listItems_at ho hd ?_)
  refine wpAny_bind (listItems_at (xs := its.toArray) (n := n) e rfl ?_)
  rw [if_neg hlong]
  refine wpAny_bind (listUpdate_at (xs := its.toArray) (n := n) e rfl ?_ (by rw [List.size_toArray]; omega) (by rw [Array.size_append]; omega))
  refine wpAny_pure ⟨_, rfl, ?_⟩
  refine ⟨.non, _, I.lset (its' := its ++ its2) hH e (by simp) (r.append r2) ?_, rfl, q⟩
  rw [List.length_append]
  omega
end L2
end
section
set_option maxHeartbeats 4000000
/-! DvXs: set(xs) of a list of ints (the library's call_set_tupI turned to lists). -/
namespace L2
open PySem PySem.Spec PyProof.Rows
section
variable {P : Program} {w : World} {A : Around} {E : Value → Shared → Prop} {s : Shared}
set_option maxRecDepth 100000 in
set_option maxHeartbeats 3200000 in
theorem call_set_lsI {l : Addr} {items : Array Value} (ns : List Int) {Q : Value → Shared → Prop} (hh : A.handled = none) (hl : s.heap.IsList l items) (hit : IntsAre items.toList ns) (hb : ns.length + 1 < scanBound)
    (h : ∀ (h' : Heap) (tk c : Nat), SetR w h' s.heap.objs.size (fun j => decide (j ∈ ns)) c → c ≤ ns.length → (∀ b o, s.heap.get? b = some o → h'.get? b = some o) → Q (.ref s.heap.objs.size) { s with heap := h', toks := tk }) :
    wpAny (model P w) A (call (.type "set") [.ref l]) Q E s := by
  have hisz : items.size = ns.length := by
    have q := IntsAre.length hit
    rw [Array.length_toList] at q
    exact q
  obtain ⟨c, tl, hmro⟩ := F.called_set.mro
  have hmade := F.called_set.made
  have hsub := F.called_set.sub
  refine wpAny_call (codeAny_of_tree ?_)
  show wpAny _ _ (callAny (.type "set") _) _ _ _
  refine wpAny_pure ⟨Code.quiet_builtin _ (by decide +kernel), codeAny_builtin F.entry_type_call ?_⟩
  rw [Around.under_plain (weight_type_call_type "set" [.ref l] []) rfl]
  have h1 := F.called_set.notType
  have h2 := F.called_set.canCreate
  have hct := F.typeCall_set_1 (.ref l)
  repeat (any_goals (first | assumption | wp_step))

  refine codeAny_mono (code_set_led1 (.ref l) (E := E) (Q₁ := fun obj s₁ => obj = .ref s.heap.objs.size ∧ s₁ = { s with heap := s.heap.push { cls := .type "set", dict := none, data := .set #[] 0 (.fresh 0 0 (!w.params.followText "set-order")) } }) ⟨rfl, rfl⟩) fun r s₁ hr => ?_
  cases r with
  | error e => exact hr
  | ok fl =>
    cases fl with
    | ret obj =>
      obtain ⟨rfl, rfl⟩ := hr
      have hS : (s.heap.push { cls := .type "set", dict := none, data := .set #[] 0 (.fresh 0 0 (!w.params.followText "set-order")) }).get? s.heap.objs.size = some { cls := .type "set", dict := none, data := .set #[] 0 (.fresh 0 0 (!w.params.followText "set-order")) } := Heap.get?_push_size _ rfl
      have hT : Shared.TypeIs { s with heap := s.heap.push { cls := .type "set", dict := none, data := .set #[] 0 (.fresh 0 0 (!w.params.followText "set-order")) } } (.ref s.heap.objs.size) "set" := ⟨_, hS, rfl⟩
      have hli := F.called_set.init.lookup
      have hbi := F.called_set.init.bind (.ref s.heap.objs.size)
      repeat (any_goals (first | assumption | wp_step))

      refine codeAny_mono (codeAny_call_builtin (R := wants (fun r s₂ => r = .none ∧ ∃ h' tk c, s₂ = { s with heap := h', toks := tk } ∧ SetR w h' s.heap.objs.size (fun j => decide (j ∈ ns)) c ∧ c ≤ ns.length ∧
          (∀ b o, s.heap.get? b = some o → h'.get? b = some o)) E) F.called_set.init.plain F.entry_set_init (check_set_init_1 hT ?_)) fun r₂ s₂ hr₂ => ?_
      · obtain ⟨ol, hol, hcl, nl, hdl⟩ := hl
        obtain ⟨ocls, odict, odata, oslots⟩ := ol
        simp only at hcl hdl
        subst hcl; subst hdl
        have hol' : (s.heap.push { cls := .type "set", dict := none, data := .set #[] 0 (.fresh 0 0 (!w.params.followText "set-order")) }).get? l = some { cls := .type "list", dict := odict, data := .seq items nl, slots := oslots } := Heap.get?_push_of_some _ hol
        have hsls := F.sub_list_set
        have hslf := F.sub_list_frozenset
        have hne : (Value.type "list" == Value.type "dict") = false := by decide
        have hl1 : (s.heap.push { cls := .type "set", dict := none, data := .set #[] 0 (.fresh 0 0 (!w.params.followText "set-order")) }).IsList l items := ⟨_, hol', rfl, nl, rfl⟩
        unfold Builtin.«set.__init__» noKeywords Builtin.Frozenset.updateFrom
        generalize hPI : pyIter = PI
        wp_walk
        subst hPI

        refine wpAny_pyIter_list hl1 ?_
        refine wpAny_bind (wpAny_runValue ?_)
        have hlS : l < s.heap.objs.size := Heap.lt_size hol
        have hh3 : A.in1.in1.in1.handled = none := by simp [hh]
        have hz1 : (s.heap.push { cls := .type "set", dict := none, data := .set #[] 0 (.fresh 0 0 (!w.params.followText "set-order")) }).objs.size = s.heap.objs.size + 1 := Heap.size_push ..
        have hneI : l ≠ (s.heap.push { cls := .type "set", dict := none, data := .set #[] 0 (.fresh 0 0 (!w.params.followText "set-order")) }).objs.size := by
          rw [Heap.size_push]; exact Nat.ne_of_lt (Nat.lt_succ_of_lt hlS)
        have hSf : s.heap.objs.size ∉ [(s.heap.push { cls := .type "set", dict := none, data := .set #[] 0 (.fresh 0 0 (!w.params.followText "set-order")) }).objs.size, l] := by
          rw [Heap.size_push]; simp only [List.mem_cons, List.mem_singleton, List.not_mem_nil, or_false, not_or]
          exact ⟨Nat.ne_of_lt (Nat.lt_succ_self _), Nat.ne_of_gt hlS⟩
        have hval : ∀ (i : Nat) (v : Value), items[i]? = some v → ∃ k t, ns[i]? = some k ∧ v = .int k t := fun i v hv => by
          have hi : i < ns.length := by rw [← hisz]; exact (Array.getElem?_eq_some_iff.mp hv).1
          obtain ⟨t, e⟩ := PyProof.Rows.IntsAre.int_at hit i v (by rw [Array.getElem?_toList]; exact hv)
          refine ⟨ns[i], t, List.getElem?_eq_getElem hi, ?_⟩
          rw [e, List.getD_eq_getElem?_getD, List.getElem?_eq_getElem hi] <;> rfl
        refine set_update_ints ((Walks.list hh3 _ l hneI items).toS) s.heap.objs.size
          hSf ns hisz hb hval (items.size - 0) 0 _ (by omega) (Nat.zero_le _)
          ⟨⟨_, Heap.get?_push_size _ rfl, rfl, rfl⟩, (hl1.push _)⟩ ?hS0 ?hR
        case hS0 =>
          have hget : ((s.heap.push { cls := .type "set", dict := none, data := .set #[] 0 (.fresh 0 0 (!w.params.followText "set-order")) }).push { cls := .type "list_iterator", data := .fields #[.ref l, .int 0 0] }).get? s.heap.objs.size
              = some { cls := .type "set", dict := none, data := .set #[] 0 (.fresh 0 0 (!w.params.followText "set-order")) } := Heap.get?_push_of_some _ hS
          exact ⟨0, Nat.le_refl 0, setR_new_at hget⟩
        case hR =>
          intro s' c' hm hc' hS'
          obtain ⟨h', g2, d', tk', os'⟩ := s'
          have eg : g2 = s.gens := hm.gens
          have ed : d' = s.drawn := hm.drawn
          have eo : os' = s.os := hm.os
          subst eg; subst ed; subst eo
          show wpAny _ _ _ _ _ _
          refine wpAny_pure ?_
          show wpAny _ _ (ret Value.none) _ _ _
          rw [hisz] at hc'
          refine wpAny_pure ⟨rfl, h', tk', c', rfl, hS', hc', fun b o e => ?_⟩
          have hb0 : b < s.heap.objs.size := Heap.lt_size e
          have hb1 : b ≠ s.heap.objs.size := Nat.ne_of_lt hb0
          have hb2 : b ≠ (s.heap.push { cls := .type "set", dict := none, data := .set #[] 0 (.fresh 0 0 (!w.params.followText "set-order")) }).objs.size := by
            rw [Heap.size_push]; exact Nat.ne_of_lt (Nat.lt_succ_of_lt hb0)
          exact hm.heap b o (by simp only [List.mem_cons, List.mem_singleton, List.not_mem_nil, or_false, not_or]; exact ⟨hb1, hb2⟩) (Heap.get?_push_of_some _ (Heap.get?_push_of_some _ e))

      · cases r₂ with
        | error e => exact hr₂
        | ok fl₂ =>
          cases fl₂ with
          | ret r =>
            obtain ⟨rfl, h', tk, c', rfl, hS', hc', hk'⟩ := hr₂
            repeat (any_goals (first | assumption | wp_step))
            exact h _ _ _ hS' hc' hk'
          | _ => exact hr₂.elim
    | _ => exact hr.elim

end
end L2
end
section
set_option maxHeartbeats 1000000
/-! DvXr: sorted(set(xs)) of a list of ints, as a rule. -/
namespace L2
open PySem PySem.Spec PyProof.Rows
theorem intsAre_l : ∀ {ns : List Int} {us : List Value}, Vals (ns.map V.int) us → PyProof.Rows.IntsAre us ns
  | [], _, .nil => .nil
  | n :: r, _, .cons ⟨k, e⟩ t => by
    subst e
    exact .cons n k (intsAre_l t)
theorem boot_srt : bootBuiltins "sorted" = some (.builtin "sorted") := by decide +kernel
def tSortSet (K : PySem.W.Frag) (ta : TE) : TE := fun σ H Q => ta σ H fun x H1 => ∃ (l : Addr) (ns : List Int), x = .ref l ∧ SqL K H1 l (ns.map V.int) ∧ ns.length < 64 ∧
  ∀ (ms : List Int) (p : Addr), ms.Pairwise (· < ·) → (∀ k : Int, k ∈ ms ↔ k ∈ ns) → H1 p = none → Q (.ref p) (upd H1 p (.lst (ms.map V.int)))
theorem pe_sortSet {X : Cx} {a : Expr} {ta : TE} {p p2 q pos : Pos} (hg : Gl X "sorted") (hm : X.mg "sorted" = none) (hg2 : Gl X "set") (hm2 : X.mg "set" = none) (ha : PE X a ta) (hc : X.calm = true)
    (na : starEach [a] X.env = (false, eval a X.env) :: starEach [] X.env) : PE X (.Call (.Name "sorted" p) [.Call (.Name "set" p2) [a] [] q] [] pos) (tSortSet X.K ta) := by
  refine ⟨fun pins s σ H Q I h => Call_ (ld_blt I hg hm boot_srt (PyProof.Rows.callWith_builtin1 (PyProof.Rows.args_cons ?_ rfl) rfl rfl))⟩
  refine Call_ (ld_blt I hg2 hm2 boot_set (PyProof.Rows.callWith_type1 (PyProof.Rows.args_cons (thn (ha.run pins s σ H _ I h) fun v s1 ⟨x, H1, I1, r1, q1⟩ => PyProof.Rows.args_nil ?_) na) na rfl))
  obtain ⟨l, ns, rfl, hq, h64, q1⟩ := q1
  cases r1
  obtain ⟨its, r, pl, hz⟩ := I1.list hq
  refine call_set_lsI ns (I1.ok.hd hc) pl.isList (by simpa using intsAre_l r) (by unfold scanBound; omega) fun h' tk c hS hcn hk => PyProof.Rows.args_nil ?_
  have I2 : Inv X pins σ H1 { s1 with heap := h', toks := tk } := I1.kept fun b o e => hk b o e
  refine sorted_set hS (I2.ok.hd hc) (by omega) fun s' p out c ns' k g o hp hg hi hs hm hl => ?_
  have hlen : (ns'.map V.int).length ≤ sizeLine := by rw [List.length_map, hl, sizeLine_eq]; omega
  have hn : H1 p = none := I2.hok.fresh hp
  generalize hs2 : ({ s1 with heap := h', toks := tk } : Shared) = s2 at I2 k g o hp
  have J : Inv X pins σ (upd H1 p (.lst (ns'.map V.int))) { s2 with heap := s'.heap, gens := s'.gens, drawn := s'.drawn, toks := s'.toks } :=
    I2.call (ch := []) (Un.laid k hp hn) (I2.hok.laid k hp ⟨hlen, out.toList, c, vals_of_ints hi, hg⟩) (by rw [g]; exact I2.bare) (fun _ z => nomatch z)
  have e : s' = { s2 with heap := s'.heap, gens := s'.gens, drawn := s'.drawn, toks := s'.toks } := by
    cases s'
    cases s2
    cases o
    rfl
  rw [e]
  exact ⟨.ref p, _, J, rfl, q1 ns' p hs (fun k => by rw [hm k, decide_eq_true_iff]) hn⟩
end L2
end
section
set_option maxHeartbeats 400000
/-! DvD: argument lists, built-in calls by values, subscripts, slices, fields, calls of defs, iterables, comprehensions. -/
namespace Dv
open PySem PySem.Spec PyProof.Rows L2

/-! ### lists of arguments -/
def nilM : Env → M (List D) := fun _ => .ret []
def consM (f : Env → M D) (fs : Env → M (List D)) : Env → M (List D) := fun env => (f env).bind fun d => (fs env).bind fun ds => .ret (d :: ds)
def thenM (fs : Env → M (List D)) (F : List D → Option D) : Env → M D := fun env => (fs env).bind fun ds => .of (F ds)
/-- an expression that is neither starred nor a set -/
def plainX : Expr → Bool
  | .Starred .. => false
  | .Set .. => false
  | _ => true
theorem starEach_plain {e : Expr} {es : List Expr} {env : PySem.Env} (h : plainX e = true) : starEach (e :: es) env = (false, eval e env) :: starEach es env := by
  cases e <;> first | rfl | cases h
theorem nobeh {e : Expr} {op : CmpOp} (h : plainX e = true) : behindInMarks op e = false := by
  cases e <;> first | rfl | cases h
theorem noafter {env : PySem.Env} {pos : Pos} : ∀ {es : List Expr}, es.all plainX = true → (backTo pos (starEach es env)).any (·.1) = false
  | [], _ => rfl
  | e :: es, h => by
    simp only [List.all_cons, Bool.and_eq_true] at h
    rw [starEach_plain h.1]
    exact noafter h.2
section
variable {S : Sx} {X : Cx} {Wx : WX}
theorem pa_nilD : PA X [] (tA S Wx nilM) := impA pa_nil fun σ H Q ⟨env, W, g, st, q⟩ => Out.ret (α := List D) (a := []) (k := fun ds _ W' H' => ∀ vs, Reps S W' ds vs → Q vs H') q st.zin st.pool [] trivial
theorem pa_consD {e : Expr} {es : List Expr} {f : Env → M D} {fs : Env → M (List D)} (ha : PE X e (tD S Wx f)) (hr : PA X es (tA S Wx fs)) (hp : plainX e = true) : PA X (e :: es) (tA S Wx (consM f fs)) :=
  impA (pa_cons ha hr (starEach_plain hp)) fun σ H Q ⟨env, W, g, st, q⟩ => ⟨env, W, g, st, q.bind.mono fun d g1 W1 H1 e1 z1 p1 q1 x rx =>
    ⟨env, W1, g1, st.next e1 z1 p1, q1.bind.mono fun ds g2 W2 H2 e2 z2 p2 q2 xs rxs => q2.ret z2 p2 (x :: xs) ⟨rx.mono e2.le, rxs⟩⟩⟩
/-- a built-in's call by values -/
def OpN (S : Sx) (r : List V → Hp → VK → Prop) (F : List D → Option D) : Prop := ∀ (W : Gh) (H : Hp) (g : G) (vs : List V) (ds : List D) (c : D) (Q : VK), ZIn W H → PoolIn W H g → Reps S W ds vs → F ds = some c → KD S W H g c Q → r vs H Q
def OpNF (S : Sx) (r : List V → Hp → VK → Prop) (F : List D → Option D) : Prop := ∀ (W : Gh) (H : Hp) (g : G) (vs : List V) (ds : List D) (c : D) (Q : VK), ZIn W H → PoolIn W H g → Reps S W ds vs → F ds = some c → KF S W H g c Q → r vs H Q
theorem OpNF.d {r : List V → Hp → VK → Prop} {F : List D → Option D} (h : OpNF S r F) : OpN S r F := fun W H g vs ds c Q z p rr e k => h W H g vs ds c Q z p rr e k.kf
theorem tCB_of {r : List V → Hp → VK → Prop} {F : List D → Option D} {fs : Env → M (List D)} (ho : OpN S r F) : ∀ σ H Q, tD S Wx (thenM fs F) σ H Q → tCB r (tA S Wx fs) σ H Q := by
  rintro σ H Q ⟨env, W, g, st, q⟩
  refine ⟨env, W, g, st, q.bind.mono fun ds g1 W1 H1 e1 z1 p1 q1 vs rs => ?_⟩
  obtain ⟨c, hc, q2⟩ := q1.of
  exact ho W1 H1 g1 vs ds c Q z1 p1 rs hc fun v W' H' e' z' p' r' => q2 W' H' e' z' p' v r'
theorem tCBF_of {r : List V → Hp → VK → Prop} {F : List D → Option D} {fs : Env → M (List D)} (ho : OpNF S r F) : ∀ σ H Q, tF S Wx (thenM fs F) σ H Q → tCB r (tA S Wx fs) σ H Q := by
  rintro σ H Q ⟨env, W, g, st, q⟩
  refine ⟨env, W, g, st, q.bind.mono fun ds g1 W1 H1 e1 z1 p1 q1 vs rs => ?_⟩
  obtain ⟨c, hc, q2⟩ := q1.of
  refine ho W1 H1 g1 vs ds c Q z1 p1 rs hc fun p o W' H' e' z' p' hp hz np ho r' => q2 W' H' e' z' p' p o ?_ hz np ho r'
  cases q : H p with
  | none => rfl
  | some u => exact absurd hp (e1.there p (by rw [q]; simp))

/-! ### displays -/
def sizeOk {α : Type} (c : List α → D) (xs : List α) : Option D := if xs.length ≤ sizeLine then some (c xs) else none
theorem pe_tupD {es : List Expr} {fs : Env → M (List D)} {k : Nat} {pos : Pos} (h : PA X es (tA S Wx fs)) : PE X (.Tuple es k pos) (tD S Wx (thenM fs (sizeOk .tup))) :=
  impE (pe_tup h) fun σ H Q ⟨env, W, g, st, q⟩ => ⟨env, W, g, st, q.bind.mono fun ds g1 W1 H1 e1 z1 p1 q1 vs rs => by
    obtain ⟨c, hc, q2⟩ := q1.of
    unfold sizeOk at hc
    split at hc
    · rename_i hl
      cases hc
      refine ⟨by rw [← rs.length]; exact hl, fun p hp => ?_⟩
      exact KD.tup (S := S) (W := W1) (g := g1) (Q := Q) (fun v W' H' e' z' p' r' => q2 W' H' e' z' p' v r') z1 p1 rs hp
    · cases hc⟩
theorem pe_lstF {es : List Expr} {fs : Env → M (List D)} {pos : Pos} (h : PA X es (tA S Wx fs)) : PE X (.List es pos) (tF S Wx (thenM fs (sizeOk .lst))) :=
  impE (pe_lst h) fun σ H Q ⟨env, W, g, st, q⟩ => ⟨env, W, g, st, q.bind.mono fun ds g1 W1 H1 e1 z1 p1 q1 vs rs => by
    obtain ⟨c, hc, q2⟩ := q1.of
    unfold sizeOk at hc
    split at hc
    · rename_i hl
      cases hc
      refine ⟨by rw [← rs.length]; exact hl, fun p hp => ?_⟩
      refine KF.new (S := S) (W := W1) (g := g1) (Q := Q) (fun x o W' H' e' z' p' hx hz np ho r' => q2 W' H' e' z' p' x o ?_ hz np ho r') z1 p1 ⟨vs, rfl, rs⟩ hp
      cases q : H x with
      | none => rfl
      | some u => exact absurd hx (e1.there x (by rw [q]; simp))
    · cases hc⟩

/-! ### built-ins -/
def intsD : List D → Option (List Int)
  | [] => some []
  | .int i :: r => (intsD r).map (i :: ·)
  | _ => none
def boolsD : List D → Option (List Bool)
  | [] => some []
  | .bl i :: r => (boolsD r).map (i :: ·)
  | _ => none
theorem ints_rep {W : Gh} : ∀ {ds : List D} {vs : List V} {ns : List Int}, intsD ds = some ns → Reps S W ds vs → vs = ns.map V.int
  | [], [], ns, h, _ => by cases h; rfl
  | .int i :: r, v :: vs, ns, h, q => by
    obtain ⟨ms, h1, rfl⟩ := Option.map_eq_some_iff.mp (show (intsD r).map (i :: ·) = some ns from h)
    obtain ⟨q1, q2⟩ := q
    obtain rfl : v = .int i := q1
    rw [ints_rep h1 q2]; rfl
  | [], _ :: _, _, _, q => q.elim
  | _ :: _, [], _, _, q => q.elim
theorem bools_rep {W : Gh} : ∀ {ds : List D} {vs : List V} {ns : List Bool}, boolsD ds = some ns → Reps S W ds vs → vs = ns.map V.bl
  | [], [], ns, h, _ => by cases h; rfl
  | .bl i :: r, v :: vs, ns, h, q => by
    obtain ⟨ms, h1, rfl⟩ := Option.map_eq_some_iff.mp (show (boolsD r).map (i :: ·) = some ns from h)
    obtain ⟨q1, q2⟩ := q
    obtain rfl : v = .bl i := q1
    rw [bools_rep h1 q2]; rfl
  | [], _ :: _, _, _, q => q.elim
  | _ :: _, [], _, _, q => q.elim
def maxI : List Int → Option Int
  | [] => none
  | n :: r => some (r.foldl max n)
def minI : List Int → Option Int
  | [] => none
  | n :: r => some (r.foldl min n)
theorem foldl_max (r : List Int) : ∀ n : Int, r.foldl max n ∈ n :: r ∧ ∀ y ∈ n :: r, y ≤ r.foldl max n := by
  induction r with
  | nil => intro n; simp
  | cons m r ih =>
    intro n
    obtain ⟨h1, h2⟩ := ih (max n m)
    rw [List.foldl_cons]
    refine ⟨?_, fun y hy => ?_⟩
    · rcases List.mem_cons.mp h1 with e | e
      · rw [e]
        rcases Int.le_total n m with q | q
        · rw [Int.max_eq_right q]; simp
        · rw [Int.max_eq_left q]; simp
      · exact List.mem_cons_of_mem _ (List.mem_cons_of_mem _ e)
    · have h3 := h2 (max n m) List.mem_cons_self
      rcases List.mem_cons.mp hy with e | hy
      · rw [e]; omega
      · rcases List.mem_cons.mp hy with e | hy
        · rw [e]; omega
        · exact h2 y (List.mem_cons_of_mem _ hy)
theorem foldl_min (r : List Int) : ∀ n : Int, r.foldl min n ∈ n :: r ∧ ∀ y ∈ n :: r, r.foldl min n ≤ y := by
  induction r with
  | nil => intro n; simp
  | cons m r ih =>
    intro n
    obtain ⟨h1, h2⟩ := ih (min n m)
    rw [List.foldl_cons]
    refine ⟨?_, fun y hy => ?_⟩
    · rcases List.mem_cons.mp h1 with e | e
      · rw [e]
        rcases Int.le_total n m with q | q
        · rw [Int.min_eq_left q]; simp
        · rw [Int.min_eq_right q]; simp
      · exact List.mem_cons_of_mem _ (List.mem_cons_of_mem _ e)
    · have h3 := h2 (min n m) List.mem_cons_self
      rcases List.mem_cons.mp hy with e | hy
      · rw [e]; omega
      · rcases List.mem_cons.mp hy with e | hy
        · rw [e]; omega
        · exact h2 y (List.mem_cons_of_mem _ hy)

end
inductive BI where
  | len | max2 | min2 | max1 | min1 | sum | all | any | abs | int | tuple | list | sorted
  deriving DecidableEq
def biName : BI → Str
  | .len => "len" | .max2 => "max" | .min2 => "min" | .max1 => "max" | .min1 => "min" | .sum => "sum" | .all => "all" | .any => "any" | .abs => "abs" | .int => "int" | .tuple => "tuple" | .list => "list" | .sorted => "sorted"
/-- ascending, by insertion -/
def insI (n : Int) : List Int → List Int
  | [] => [n]
  | m :: r => if n ≤ m then n :: m :: r else m :: insI n r
def sortI : List Int → List Int
  | [] => []
  | n :: r => insI n (sortI r)
def one1 (f : D → Option D) : List D → Option D
  | [d] => f d
  | _ => none
def two2 (f : Int → Int → Int) : List D → Option D
  | [.int i, .int j] => some (.int (f i j))
  | _ => none
def lenF (d : D) : Option D := match d with
  | .lst xs => some (.int xs.length)
  | .tup xs => some (.int xs.length)
  | .str x => if x.length ≤ sizeLine then some (.int x.length) else none
  | .scr ns => some (.int ns.length)
  | _ => none
def onL (f : List D → Option D) (d : D) : Option D := match d with
  | .lst xs => f xs
  | _ => none
def absF (d : D) : Option D := match d with
  | .int i => some (.int (if i < 0 then -i else i))
  | _ => none
def intF (d : D) : Option D := match d with
  | .int i => some (.int i)
  | .bl b => some (.int (if b then 1 else 0))
  | _ => none
def tupF (d : D) : Option D := match d with
  | .lst xs => some (.tup xs)
  | .tup xs => some (.tup xs)
  | _ => none
def lstF (d : D) : Option D := match d with
  | .lst xs => some (.lst xs)
  | .tup xs => some (.lst xs)
  | _ => none
def maxF (xs : List D) : Option D := (intsD xs).bind fun ns => (maxI ns).map .int
def minF (xs : List D) : Option D := (intsD xs).bind fun ns => (minI ns).map .int
def sumF (xs : List D) : Option D := (intsD xs).map fun ns => .int ns.sum
def allF (xs : List D) : Option D := (boolsD xs).map fun ns => .bl (ns.all id)
def anyF (xs : List D) : Option D := (boolsD xs).map fun ns => .bl (ns.any id)
/-- pairs of ints -/
def prD (p : Int × Int) : D := .tup [.int p.1, .int p.2]
def pairD : D → Option (Int × Int)
  | .tup [.int a, .int b] => some (a, b)
  | _ => none
def pairsD : List D → Option (List (Int × Int))
  | [] => some []
  | d :: r => match pairD d, pairsD r with
    | some p, some ps => some (p :: ps)
    | _, _ => none
def insP (p : Int × Int) : List (Int × Int) → List (Int × Int)
  | [] => [p]
  | q :: r => if SrtO.lexB q p = true then q :: insP p r else p :: q :: r
def sortP : List (Int × Int) → List (Int × Int)
  | [] => []
  | p :: r => insP p (sortP r)
/-- a text and ints behind it -/
def wD (p : Wd) : D := .tup (.str p.1 :: p.2.map .int)
def wordD (d : D) : Option Wd := match d with
  | .tup (.str s :: ds) => (intsD ds).map fun ns => (s, ns)
  | _ => none
def wordsD : List D → Option (List Wd)
  | [] => some []
  | d :: r => match wordD d, wordsD r with
    | some p, some ps => some (p :: ps)
    | _, _ => none
def ltWd (p q : Wd) : Bool := DvS1.ltK (keyW p) (keyW q)
def insW (p : Wd) : List Wd → List Wd
  | [] => [p]
  | q :: r => if ltWd q p = true then q :: insW p r else p :: q :: r
def sortW : List Wd → List Wd
  | [] => []
  | p :: r => insW p (sortW r)
def sortF (xs : List D) : Option D := match intsD xs with
  | some ns => some (.lst ((sortI ns).map .int))
  | none => match pairsD xs with
    | some ps => some (.lst ((sortP ps).map prD))
    | none => (wordsD xs).map fun ps => .lst ((sortW ps).map wD)
def tupS (d : D) : Option D := match d with
  | .tup xs => (intsD xs).map fun ns => .lst ((sortI ns).map .int)
  | _ => none
def srtO (d : D) : Option D := match d with
  | .lst xs => sortF xs
  | _ => tupS d
@[simp] theorem srtO_lst (xs : List D) : srtO (.lst xs) = sortF xs := rfl
def biO (b : BI) : List D → Option D := match b with
  | .len => one1 lenF
  | .max2 => two2 max
  | .min2 => two2 min
  | .max1 => one1 (onL maxF)
  | .min1 => one1 (onL minF)
  | .sum => one1 (onL sumF)
  | .all => one1 (onL allF)
  | .any => one1 (onL anyF)
  | .abs => one1 absF
  | .int => one1 intF
  | .tuple => one1 tupF
  | .list => one1 lstF
  | .sorted => one1 srtO
section
variable {S : Sx} {X : Cx} {Wx : WX}
theorem opn_one {r : List V → Hp → VK → Prop} {f : D → Option D} (h : ∀ (W : Gh) (H : Hp) (g : G) (v : V) (d c : D) (Q : VK), ZIn W H → PoolIn W H g → Rep S W d v → f d = some c → KD S W H g c Q → r [v] H Q) : OpN S r (one1 f) := by
  intro W H g vs ds c Q z pl rs hc k
  unfold one1 at hc
  split at hc
  · cases vs with
    | nil => exact rs.elim
    | cons v vs =>
      cases vs with
      | nil => exact h W H g v _ c Q z pl rs.1 hc k
      | cons _ _ => exact rs.2.elim
  · cases hc
theorem opnf_one {r : List V → Hp → VK → Prop} {f : D → Option D} (h : ∀ (W : Gh) (H : Hp) (g : G) (v : V) (d c : D) (Q : VK), ZIn W H → PoolIn W H g → Rep S W d v → f d = some c → KF S W H g c Q → r [v] H Q) : OpNF S r (one1 f) := by
  intro W H g vs ds c Q z pl rs hc k
  unfold one1 at hc
  split at hc
  · cases vs with
    | nil => exact rs.elim
    | cons v vs =>
      cases vs with
      | nil => exact h W H g v _ c Q z pl rs.1 hc k
      | cons _ _ => exact rs.2.elim
  · cases hc
theorem onL_rep {W : Gh} {H : Hp} {v : V} {d c : D} {f : List D → Option D} (z : ZIn W H) (r : Rep S W d v) (h : onL f d = some c) : ∃ a vs xs, v = .ref a ∧ SqL S.K H a vs ∧ Reps S W xs vs ∧ f xs = some c := by
  unfold onL at h
  split at h
  · rename_i xs
    obtain ⟨a, vs, e, ha, ra⟩ := r
    exact ⟨a, vs, xs, e, Rep.sqL z ha, ra, h⟩
  · cases h
theorem opn_len : OpN S (fun xs H Q => ∃ x n, xs = [x] ∧ LenV S.K x H n ∧ Q (.int n) H) (one1 lenF) := opn_one fun W H g v d c Q z pl r hc k => by
  unfold lenF at hc
  split at hc
  · cases hc
    obtain ⟨a, vs, rfl, ha, ra⟩ := r
    exact ⟨_, _, rfl, .inl ⟨vs, Rep.sqL z ha, rfl⟩, by rw [← ra.length]; exact k.same z pl rfl⟩
  · cases hc
    obtain ⟨a, vs, rfl, ha, ra⟩ := r
    exact ⟨_, _, rfl, .inr ⟨vs, Rep.sqT z ha, rfl⟩, by rw [← ra.length]; exact k.same z pl rfl⟩
  · split at hc
    · rename_i hl
      cases hc
      obtain rfl : v = _ := r
      exact ⟨_, _, rfl, ⟨hl, rfl⟩, k.same z pl rfl⟩
    · cases hc
  · cases hc
    obtain ⟨a, rfl, ha⟩ := r
    exact ⟨_, _, rfl, .inl ⟨_, sqL_mono z ha, rfl⟩, by rw [List.length_map]; exact k.same z pl rfl⟩
  · cases hc
theorem two2_rep {W : Gh} {f : Int → Int → Int} {ds : List D} {vs : List V} {c : D} (r : Reps S W ds vs) (h : two2 f ds = some c) : ∃ i j, vs = [.int i, .int j] ∧ c = .int (f i j) := by
  unfold two2 at h
  split at h
  · cases h
    rename_i i j
    cases vs with
    | nil => exact r.elim
    | cons v vs =>
      cases vs with
      | nil => exact r.2.elim
      | cons v2 vs =>
        cases vs with
        | nil =>
          obtain ⟨r1, r2, _⟩ := r
          obtain rfl : v = .int i := r1
          obtain rfl : v2 = .int j := r2
          exact ⟨i, j, rfl, rfl⟩
        | cons _ _ => exact r.2.2.elim
  · cases h
theorem opn_max2 : OpN S (fun xs H Q => ∃ i j : Int, xs = [.int i, .int j] ∧ Q (.int (if j > i then j else i)) H) (two2 max) := fun W H g vs ds c Q z pl r hc k => by
  obtain ⟨i, j, rfl, rfl⟩ := two2_rep r hc
  refine ⟨i, j, rfl, ?_⟩
  have e : (if j > i then j else i) = max i j := by split <;> omega
  rw [e]
  exact k.same z pl rfl
theorem opn_min2 : OpN S (fun xs H Q => ∃ i j : Int, xs = [.int i, .int j] ∧ Q (.int (if j < i then j else i)) H) (two2 min) := fun W H g vs ds c Q z pl r hc k => by
  obtain ⟨i, j, rfl, rfl⟩ := two2_rep r hc
  refine ⟨i, j, rfl, ?_⟩
  have e : (if j < i then j else i) = min i j := by split <;> omega
  rw [e]
  exact k.same z pl rfl
theorem opn_max1 : OpN S (rMax S.K) (one1 (onL maxF)) := opn_one fun W H g v d c Q z pl r hc k => by
  obtain ⟨a, vs, xs, rfl, ha, ra, hf⟩ := onL_rep z r hc
  obtain ⟨ns, h1, h2⟩ := Option.bind_eq_some_iff.mp hf
  obtain ⟨m, h3, rfl⟩ := Option.map_eq_some_iff.mp h2
  have e := ints_rep h1 ra
  subst e
  cases ns with
  | nil => cases h3
  | cons n r =>
    cases h3
    refine ⟨a, n :: r, rfl, ha, by simp, fun m hm hy => ?_⟩
    obtain ⟨q1, q2⟩ := foldl_max r n
    have e : m = r.foldl max n := Int.le_antisymm (q2 m hm) (hy _ q1)
    rw [e]
    exact k.same z pl rfl
theorem opn_min1 : OpN S (rMin S.K) (one1 (onL minF)) := opn_one fun W H g v d c Q z pl r hc k => by
  obtain ⟨a, vs, xs, rfl, ha, ra, hf⟩ := onL_rep z r hc
  obtain ⟨ns, h1, h2⟩ := Option.bind_eq_some_iff.mp hf
  obtain ⟨m, h3, rfl⟩ := Option.map_eq_some_iff.mp h2
  have e := ints_rep h1 ra
  subst e
  cases ns with
  | nil => cases h3
  | cons n r =>
    cases h3
    refine ⟨a, n :: r, rfl, ha, by simp, fun m hm hy => ?_⟩
    obtain ⟨q1, q2⟩ := foldl_min r n
    have e : m = r.foldl min n := Int.le_antisymm (hy _ q1) (q2 m hm)
    rw [e]
    exact k.same z pl rfl
theorem opn_sum : OpN S (rSum S.K) (one1 (onL sumF)) := opn_one fun W H g v d c Q z pl r hc k => by
  obtain ⟨a, vs, xs, rfl, ha, ra, hf⟩ := onL_rep z r hc
  obtain ⟨ns, h1, rfl⟩ := Option.map_eq_some_iff.mp hf
  have e := ints_rep h1 ra
  subst e
  exact ⟨a, ns, rfl, ha, k.same z pl rfl⟩
theorem opn_all : OpN S (rAll S.K) (one1 (onL allF)) := opn_one fun W H g v d c Q z pl r hc k => by
  obtain ⟨a, vs, xs, rfl, ha, ra, hf⟩ := onL_rep z r hc
  obtain ⟨ns, h1, rfl⟩ := Option.map_eq_some_iff.mp hf
  have e := bools_rep h1 ra
  subst e
  exact ⟨a, ns, rfl, ha, k.same z pl rfl⟩
theorem opn_any : OpN S (rAny S.K) (one1 (onL anyF)) := opn_one fun W H g v d c Q z pl r hc k => by
  obtain ⟨a, vs, xs, rfl, ha, ra, hf⟩ := onL_rep z r hc
  obtain ⟨ns, h1, rfl⟩ := Option.map_eq_some_iff.mp hf
  have e := bools_rep h1 ra
  subst e
  exact ⟨a, ns, rfl, ha, k.same z pl rfl⟩
theorem opn_abs : OpN S (fun xs H Q => ∃ i, xs = [.int i] ∧ Q (.int (if i < 0 then -i else i)) H) (one1 absF) := opn_one fun W H g v d c Q z pl r hc k => by
  unfold absF at hc
  split at hc
  · cases hc
    obtain rfl : v = _ := r
    exact ⟨_, rfl, k.same z pl rfl⟩
  · cases hc
theorem opn_int : OpN S (fun xs H Q => (∃ i, xs = [.int i] ∧ Q (.int i) H) ∨ ∃ k, xs = [.bl k] ∧ Q (.int (if k then 1 else 0)) H) (one1 intF) := opn_one fun W H g v d c Q z pl r hc k => by
  unfold intF at hc
  split at hc
  · cases hc
    obtain rfl : v = _ := r
    exact .inl ⟨_, rfl, k.same z pl rfl⟩
  · cases hc
    obtain rfl : v = _ := r
    exact .inr ⟨_, rfl, k.same z pl rfl⟩
  · cases hc
theorem opn_tuple : OpN S (fun xs H Q => ∃ p ys, xs = [.ref p] ∧ ((SqL S.K H p ys ∧ ∀ l, H l = none → Q (.ref l) (upd H l (.tup ys))) ∨ (SqT S.K H p ys ∧ Q (.ref p) H))) (one1 tupF) := opn_one fun W H g v d c Q z pl r hc k => by
  unfold tupF at hc
  split at hc
  · cases hc
    obtain ⟨a, vs, rfl, ha, ra⟩ := r
    exact ⟨a, vs, rfl, .inl ⟨Rep.sqL z ha, fun l hl => k.tup z pl ra hl⟩⟩
  · cases hc
    obtain ⟨a, vs, rfl, ha, ra⟩ := r
    exact ⟨a, vs, rfl, .inr ⟨Rep.sqT z ha, k.same z pl ⟨a, vs, rfl, ha, ra⟩⟩⟩
  · cases hc
theorem opnf_list : OpNF S (fun xs H Q => ∃ p ys, xs = [.ref p] ∧ (SqL S.K H p ys ∨ SqT S.K H p ys) ∧ ∀ l, H l = none → Q (.ref l) (upd H l (.lst ys))) (one1 lstF) := opnf_one fun W H g v d c Q z pl r hc k => by
  unfold lstF at hc
  split at hc
  · cases hc
    obtain ⟨a, vs, rfl, ha, ra⟩ := r
    exact ⟨a, vs, rfl, .inl (Rep.sqL z ha), fun l hl => k.new z pl ⟨vs, rfl, ra⟩ hl⟩
  · cases hc
    obtain ⟨a, vs, rfl, ha, ra⟩ := r
    exact ⟨a, vs, rfl, .inr (Rep.sqT z ha), fun l hl => k.new z pl ⟨vs, rfl, ra⟩ hl⟩
  · cases hc
theorem insI_perm (n : Int) : ∀ l : List Int, (insI n l).Perm (n :: l)
  | [] => .refl _
  | m :: r => by
    unfold insI
    split
    · exact .refl _
    · exact ((insI_perm n r).cons m).trans (.swap _ _ _)
theorem sortI_perm : ∀ l : List Int, (sortI l).Perm l
  | [] => .refl _
  | n :: r => (insI_perm n _).trans ((sortI_perm r).cons n)
theorem insI_sorted (n : Int) : ∀ l : List Int, l.Pairwise (· ≤ ·) → (insI n l).Pairwise (· ≤ ·)
  | [], _ => List.pairwise_singleton _ _
  | m :: r, h => by
    unfold insI
    split
    · rename_i hn
      refine List.pairwise_cons.mpr ⟨fun y hy => ?_, h⟩
      rcases List.mem_cons.mp hy with e | e
      · rw [e]; exact hn
      · exact Int.le_trans hn ((List.pairwise_cons.mp h).1 y e)
    · rename_i hn
      refine List.pairwise_cons.mpr ⟨fun y hy => ?_, insI_sorted n r (List.pairwise_cons.mp h).2⟩
      rcases List.mem_cons.mp ((insI_perm n r).mem_iff.mp hy) with e | e
      · rw [e]; omega
      · exact (List.pairwise_cons.mp h).1 y e
theorem sortI_sorted : ∀ l : List Int, (sortI l).Pairwise (· ≤ ·)
  | [] => List.Pairwise.nil
  | n :: r => insI_sorted n _ (sortI_sorted r)
theorem sorted_unique : ∀ {a b : List Int}, a.Perm b → a.Pairwise (· ≤ ·) → b.Pairwise (· ≤ ·) → a = b := fun {a b} h h1 h2 =>
  h.eq_of_pairwise (fun x y _ _ p q => Int.le_antisymm p q) h1 h2
def leP (p q : Int × Int) : Prop := SrtO.lexB q p = false
theorem leP_anti {p q : Int × Int} (h : leP p q) (h' : leP q p) : p = q := by
  have a := SrtO.lexB_no.mp h
  have b := SrtO.lexB_no.mp h'
  obtain ⟨p1, p2⟩ := p
  obtain ⟨q1, q2⟩ := q
  have e1 : p1 = q1 := by simp only at a b; omega
  have e2 : p2 = q2 := by simp only at a b; omega
  rw [e1, e2]
theorem leP_trans {p q r : Int × Int} (h : leP p q) (h' : leP q r) : leP p r := by
  have a := SrtO.lexB_no.mp h
  have b := SrtO.lexB_no.mp h'
  refine SrtO.lexB_no.mpr ?_
  omega
theorem insP_perm (n : Int × Int) : ∀ l, (insP n l).Perm (n :: l)
  | [] => .refl _
  | m :: r => by
    unfold insP
    split
    · exact ((insP_perm n r).cons m).trans (.swap _ _ _)
    · exact .refl _
theorem sortP_perm : ∀ l, (sortP l).Perm l
  | [] => .refl _
  | n :: r => (insP_perm n _).trans ((sortP_perm r).cons n)
theorem insP_sorted (n : Int × Int) : ∀ l, l.Pairwise leP → (insP n l).Pairwise leP
  | [], _ => List.pairwise_singleton _ _
  | m :: r, h => by
    unfold insP
    split
    · rename_i hn
      refine List.pairwise_cons.mpr ⟨fun y hy => ?_, insP_sorted n r (List.pairwise_cons.mp h).2⟩
      rcases List.mem_cons.mp ((insP_perm n r).mem_iff.mp hy) with e | e
      · rw [e]
        have a := SrtO.lexB_iff.mp hn
        exact SrtO.lexB_no.mpr (by omega)
      · exact (List.pairwise_cons.mp h).1 y e
    · rename_i hn
      have hn : leP n m := by unfold leP; revert hn; cases SrtO.lexB m n <;> simp
      refine List.pairwise_cons.mpr ⟨fun y hy => ?_, h⟩
      rcases List.mem_cons.mp hy with e | e
      · rw [e]; exact hn
      · exact leP_trans hn ((List.pairwise_cons.mp h).1 y e)
theorem sortP_sorted : ∀ l, (sortP l).Pairwise leP
  | [] => List.Pairwise.nil
  | n :: r => insP_sorted n _ (sortP_sorted r)
theorem pairD_some {d : D} {p : Int × Int} (h : pairD d = some p) : d = prD p := by
  unfold pairD at h
  split at h
  · cases h; rfl
  · cases h
/-- the pair at a place -/
def kP (W : Gh) : V → Int × Int
  | .ref t => match W.Z t with
    | some (.tup [.int a, .int b]) => (a, b)
    | _ => (0, 0)
  | _ => (0, 0)
theorem kP_of {W : Gh} {p : Int × Int} {v : V} (r : Rep S W (prD p) v) : kP W v = p ∧ ∃ t, v = .ref t ∧ W.Z t = some (.tup [.int p.1, .int p.2]) := by
  obtain ⟨t, vs, rfl, hz, rv⟩ := r
  obtain rfl : vs = [.int p.1, .int p.2] := by
    cases vs with
    | nil => exact rv.elim
    | cons a vs =>
      cases vs with
      | nil => exact rv.2.elim
      | cons b vs =>
        cases vs with
        | nil =>
          obtain ⟨r1, r2, _⟩ := rv
          obtain rfl : a = .int p.1 := r1
          obtain rfl : b = .int p.2 := r2
          rfl
        | cons _ _ => exact rv.2.2.elim
  refine ⟨?_, t, rfl, hz⟩
  simp only [kP, hz]
theorem pairs_rep {W : Gh} : ∀ {ds : List D} {vs : List V} {ps : List (Int × Int)}, pairsD ds = some ps → Reps S W ds vs → vs.map (kP W) = ps ∧ ∀ v ∈ vs, Rep S W (prD (kP W v)) v
  | [], [], ps, h, _ => by cases h; exact ⟨rfl, fun v hv => by cases hv⟩
  | d :: ds, v :: vs, ps, h, r => by
    unfold pairsD at h
    split at h
    · rename_i p qs h1 h2
      cases h
      obtain ⟨e1, e2⟩ := pairs_rep h2 r.2
      have rv := r.1
      rw [pairD_some h1] at rv
      have k := (kP_of rv).1
      refine ⟨by rw [List.map_cons, e1, k], fun u hu => ?_⟩
      rcases List.mem_cons.mp hu with rfl | hu
      · rw [k]; exact rv
      · exact e2 u hu
    · cases h
  | [], _ :: _, _, _, r => r.elim
  | _ :: _, [], _, _, r => r.elim
/-! words -/
def leW (p q : Wd) : Prop := ltWd q p = false
theorem keyW_inj {p q : Wd} (h : keyW p = keyW q) : p = q := by
  obtain ⟨s, ns⟩ := p
  obtain ⟨t, ms⟩ := q
  unfold keyW at h
  injection h with h1 h2
  have e1 : s = t := by
    have hc : s.cps = t.cps := Array.toList_inj.mp (Sum.inr.inj h1)
    cases s
    cases t
    simp only [Str.mk.injEq]
    exact hc
  have e2 : ns = ms := by
    have : ∀ (a b : List Int), a.map (Sum.inl (β := List Nat)) = b.map Sum.inl → a = b := by
      intro a
      induction a with
      | nil => intro b h; cases b with
        | nil => rfl
        | cons _ _ => cases h
      | cons x a ih => intro b h; cases b with
        | nil => cases h
        | cons y b =>
          injection h with h3 h4
          rw [Sum.inl.inj h3, ih b h4]
    exact this _ _ h2
  rw [e1, e2]
theorem leW_anti {p q : Wd} (h : leW p q) (h' : leW q p) : p = q := keyW_inj (lex_total (O := itemOrd) _ _ h' h)
theorem leW_trans {p q r : Wd} (h : leW p q) (h' : leW q r) : leW p r := (DvS1.swo_k keyW).tr p q r h h'
theorem leW_of {p q : Wd} (h : ltWd p q = true) : leW p q := (DvS1.swo_k keyW).asym p q h
theorem insW_perm (n : Wd) : ∀ l, (insW n l).Perm (n :: l)
  | [] => .refl _
  | m :: r => by
    unfold insW
    split
    · exact ((insW_perm n r).cons m).trans (.swap _ _ _)
    · exact .refl _
theorem sortW_perm : ∀ l, (sortW l).Perm l
  | [] => .refl _
  | n :: r => (insW_perm n _).trans ((sortW_perm r).cons n)
theorem insW_sorted (n : Wd) : ∀ l, l.Pairwise leW → (insW n l).Pairwise leW
  | [], _ => List.pairwise_singleton _ _
  | m :: r, h => by
    unfold insW
    split
    · rename_i hn
      refine List.pairwise_cons.mpr ⟨fun y hy => ?_, insW_sorted n r (List.pairwise_cons.mp h).2⟩
      rcases List.mem_cons.mp ((insW_perm n r).mem_iff.mp hy) with e | e
      · rw [e]; exact leW_of hn
      · exact (List.pairwise_cons.mp h).1 y e
    · rename_i hn
      have hn : leW n m := by unfold leW; revert hn; cases ltWd m n <;> simp
      refine List.pairwise_cons.mpr ⟨fun y hy => ?_, h⟩
      rcases List.mem_cons.mp hy with e | e
      · rw [e]; exact hn
      · exact leW_trans hn ((List.pairwise_cons.mp h).1 y e)
theorem sortW_sorted : ∀ l, (sortW l).Pairwise leW
  | [] => List.Pairwise.nil
  | n :: r => insW_sorted n _ (sortW_sorted r)
theorem sortW_uniq {a b : List Wd} (h : a.Perm b) : sortW a = sortW b :=
  ((sortW_perm a).trans (h.trans (sortW_perm b).symm)).eq_of_pairwise (fun x y _ _ p q => leW_anti p q) (sortW_sorted a) (sortW_sorted b)
theorem wordD_some {d : D} {p : Wd} (h : wordD d = some p) : d = wD p := by
  unfold wordD at h
  split at h
  · rename_i s ds
    obtain ⟨ns, h1, rfl⟩ := Option.map_eq_some_iff.mp h
    have : ∀ (ds : List D) (ns : List Int), intsD ds = some ns → ds = ns.map D.int := by
      intro ds
      induction ds with
      | nil => intro ns h; cases h; rfl
      | cons d ds ih =>
        intro ns h
        cases d <;> first
          | (obtain ⟨ms, h1, rfl⟩ := Option.map_eq_some_iff.mp (show (intsD ds).map (_ :: ·) = some ns from h)
             rw [ih _ h1]; rfl)
          | cases h
    rw [this _ _ h1]; rfl
  · cases h
def intV : V → Int
  | .int i => i
  | _ => 0
/-- the word at a place -/
def kW (W : Gh) : V → Wd
  | .ref t => match W.Z t with
    | some (.tup (.str s :: vs)) => (s, vs.map intV)
    | _ => (⟨#[]⟩, [])
  | _ => (⟨#[]⟩, [])
theorem intV_map : ∀ ns : List Int, (ns.map V.int).map intV = ns
  | [] => rfl
  | n :: ns => by rw [List.map_cons, List.map_cons, intV_map ns]; rfl
theorem reps_ints {W : Gh} : ∀ {ns : List Int} {vs : List V}, Reps S W (ns.map D.int) vs → vs = ns.map V.int
  | [], [], _ => rfl
  | n :: ns, v :: vs, h => by
    obtain ⟨h1, h2⟩ := h
    obtain rfl : v = .int n := h1
    rw [reps_ints h2]; rfl
  | [], _ :: _, h => h.elim
  | _ :: _, [], h => h.elim
theorem kW_of {W : Gh} {p : Wd} {v : V} (r : Rep S W (wD p) v) : kW W v = p ∧ ∃ t, v = .ref t ∧ W.Z t = some (.tup (.str p.1 :: p.2.map V.int)) := by
  obtain ⟨t, vs, rfl, hz, rv⟩ := r
  obtain rfl : vs = .str p.1 :: p.2.map V.int := by
    cases vs with
    | nil => exact rv.elim
    | cons a vs =>
      obtain ⟨r1, r2⟩ := rv
      obtain rfl : a = .str p.1 := r1
      rw [reps_ints r2]
  refine ⟨?_, t, rfl, hz⟩
  simp only [kW, hz, intV_map]
theorem words_rep {W : Gh} : ∀ {ds : List D} {vs : List V} {ps : List Wd}, wordsD ds = some ps → Reps S W ds vs → vs.map (kW W) = ps ∧ ∀ v ∈ vs, Rep S W (wD (kW W v)) v
  | [], [], ps, h, _ => by cases h; exact ⟨rfl, fun v hv => by cases hv⟩
  | d :: ds, v :: vs, ps, h, r => by
    unfold wordsD at h
    split at h
    · rename_i p qs h1 h2
      cases h
      obtain ⟨e1, e2⟩ := words_rep h2 r.2
      have rv := r.1
      rw [wordD_some h1] at rv
      have k := (kW_of rv).1
      refine ⟨by rw [List.map_cons, e1, k], fun u hu => ?_⟩
      rcases List.mem_cons.mp hu with rfl | hu
      · rw [k]; exact rv
      · exact e2 u hu
    · cases h
  | [], _ :: _, _, _, r => r.elim
  | _ :: _, [], _, _, r => r.elim
theorem reps_map {W : Gh} {f : V → D} : ∀ {vs : List V}, (∀ v ∈ vs, Rep S W (f v) v) → Reps S W (vs.map f) vs
  | [], _ => trivial
  | v :: vs, h => ⟨h v List.mem_cons_self, reps_map fun u hu => h u (List.mem_cons_of_mem _ hu)⟩
def rSortedA (K : PySem.W.Frag) : List V → Hp → VK → Prop := fun vs H Q => rSortedI K vs H Q ∨ rSortedPO K vs H Q ∨ rSortedW K vs H Q
theorem opnf_sortedL : ∀ (W : Gh) (H : Hp) (g : G) (v : V) (d c : D) (Q : VK), ZIn W H → PoolIn W H g → Rep S W d v → onL sortF d = some c → KF S W H g c Q → rSortedA S.K [v] H Q := fun W H g v d c Q z pl r hc k => by
  obtain ⟨a, vs, xs, rfl, ha, ra, hf⟩ := onL_rep z r hc
  unfold sortF at hf
  split at hf
  · rename_i ns h1
    cases hf
    have e := ints_rep h1 ra
    subst e
    refine .inl ⟨a, ns, rfl, ha, fun ns' p hp hs hn => ?_⟩
    have e : ns' = sortI ns := sorted_unique (hp.trans (sortI_perm ns).symm) hs (sortI_sorted ns)
    rw [e]
    exact k.new z pl ⟨_, rfl, Reps.ints _⟩ hn
  · split at hf
    · rename_i ps h1
      cases hf
      obtain ⟨e1, e2⟩ := pairs_rep h1 ra
      refine .inr (.inl ⟨a, vs, kP W, rfl, ha, fun x hx => ?_, fun ys p hs hst hn => ?_⟩)
      · obtain ⟨_, t, ht, hz⟩ := kP_of (e2 x hx)
        exact ⟨t, ht, z _ _ hz⟩
      · refine k.new z pl ⟨ys, rfl, ?_⟩ hn
        have hy : ∀ v ∈ ys, Rep S W (prD (kP W v)) v := fun v hv => e2 v (hst.perm.mem_iff.mp hv)
        have e3 : ys.map (kP W) = sortP ps := by
          refine (((hst.perm.map _).trans (by rw [e1])).trans (sortP_perm ps).symm).eq_of_pairwise (fun x y _ _ p q => leP_anti p q) ?_ (sortP_sorted ps)
          refine List.pairwise_map.mpr (List.Pairwise.imp ?_ hs)
          intro x y h
          exact h
        rw [← e3, List.map_map]
        exact reps_map hy
    · obtain ⟨ps, h1, rfl⟩ := Option.map_eq_some_iff.mp hf
      obtain ⟨e1, e2⟩ := words_rep h1 ra
      refine .inr (.inr ⟨a, vs, kW W, rfl, ha, fun x hx => ?_, fun ys p hs hst hn => ?_⟩)
      · obtain ⟨_, t, ht, hz⟩ := kW_of (e2 x hx)
        exact ⟨t, ht, z _ _ hz⟩
      · refine k.new z pl ⟨ys, rfl, ?_⟩ hn
        have hy : ∀ v ∈ ys, Rep S W (wD (kW W v)) v := fun v hv => e2 v (hst.perm.mem_iff.mp hv)
        have e3 : ys.map (kW W) = sortW ps := by
          refine (((hst.perm.map _).trans (by rw [e1])).trans (sortW_perm ps).symm).eq_of_pairwise (fun x y _ _ p q => leW_anti p q) ?_ (sortW_sorted ps)
          refine List.pairwise_map.mpr (List.Pairwise.imp ?_ hs)
          intro x y h
          exact h
        rw [← e3, List.map_map]
        exact reps_map hy
theorem opnf_sorted : OpNF S (fun vs H Q => rSortedA S.K vs H Q ∨ rSortedTu S.K vs H Q) (one1 srtO) := opnf_one fun W H g v d c Q z pl r hc k => by
  unfold srtO at hc
  split at hc
  · rename_i xs
    exact .inl (opnf_sortedL W H g v (.lst xs) c Q z pl r hc k)
  · unfold tupS at hc
    split at hc
    · rename_i xs hne
      obtain ⟨ns, h1, rfl⟩ := Option.map_eq_some_iff.mp hc
      obtain ⟨a, vs, rfl, ha, ra⟩ := r
      have e := ints_rep h1 ra
      subst e
      refine .inr ⟨a, ns, rfl, Rep.sqT z ha, fun ms p hp hs hn => ?_⟩
      have e : ms = sortI ns := sorted_unique (hp.trans (sortI_perm ns).symm) hs (sortI_sorted ns)
      rw [e]
      exact k.new z pl ⟨_, rfl, Reps.ints _⟩ hn
    · cases hc
/-- each built-in has its rule -/
theorem bi_builtin (K : X.K = S.K) (hc : X.calm = true) (b : BI) : (∃ id r, CallR X (.builtin id) r ∧ OpN S r (biO b) ∧ bootBuiltins (biName b) = some (.builtin id)) ∨ ∃ T r, CallR X (.type T) r ∧ OpN S r (biO b) ∧ bootBuiltins (biName b) = some (.type T) := by
  cases b with
  | len => exact .inl ⟨_, _, call_len, by rw [K]; exact opn_len, PySem.boot_len⟩
  | max2 => exact .inl ⟨_, _, call_max2 hc, opn_max2, by decide +kernel⟩
  | min2 => exact .inl ⟨_, _, call_min2 hc, opn_min2, by decide +kernel⟩
  | max1 => exact .inl ⟨_, _, cr_max hc, by rw [K]; exact opn_max1, by decide +kernel⟩
  | min1 => exact .inl ⟨_, _, cr_min hc, by rw [K]; exact opn_min1, by decide +kernel⟩
  | sum => exact .inl ⟨_, _, cr_sum hc, by rw [K]; exact opn_sum, by decide +kernel⟩
  | all => exact .inl ⟨_, _, cr_all hc, by rw [K]; exact opn_all, by decide +kernel⟩
  | any => exact .inl ⟨_, _, cr_any hc, by rw [K]; exact opn_any, by decide +kernel⟩
  | abs => exact .inl ⟨_, _, call_abs, opn_abs, by decide +kernel⟩
  | int => exact .inr ⟨_, _, call_int1, opn_int, by decide +kernel⟩
  | tuple => exact .inr ⟨_, _, call_tuple_of, by rw [K]; exact opn_tuple, by decide +kernel⟩
  | list => exact .inr ⟨_, _, call_list_of, by rw [K]; exact opnf_list.d, by decide +kernel⟩
  | sorted => exact .inl ⟨_, _, (cr_sortedI.or (cr_sortedPO.or cr_sortedW)).or cr_sortedTu, by rw [K]; exact opnf_sorted.d, by decide +kernel⟩
end
end Dv
end
section
set_option maxHeartbeats 400000
/-! DvE: subscripts, slices, fields, calls of defs, iterables, comprehensions. -/
namespace Dv
open PySem PySem.Spec PyProof.Rows L2
section
variable {S : Sx} {X : Cx} {Wx : WX}
/-! ### subscripts -/
def idxO (d e : D) : Option D := match e with
  | .int i => match d with
    | .lst xs => atI xs i
    | .tup xs => atI xs i
    | .str z => if z.length ≤ sizeLine then (atI z.cps.toList i).map fun c => .str ⟨#[c]⟩ else none
    | _ => none
  | _ => none
theorem Reps.atI {W : Gh} {ds : List D} {vs : List V} {i : Int} {d : D} (r : Reps S W ds vs) (h : L2.atI ds i = some d) : ∃ v, L2.atI vs i = some v ∧ Rep S W d v := by
  unfold L2.atI at h ⊢
  obtain ⟨j, h1, h2⟩ := Option.bind_eq_some_iff.mp h
  obtain ⟨v, h3, h4⟩ := r.get h2
  refine ⟨v, ?_, h4⟩
  rw [← r.length, h1]
  exact h3
theorem op2_idx : Op2 S (rIx S.K) idxO := by
  intro W H g x y d e c Q z pl rx ry hc k
  unfold idxO at hc
  split at hc
  · obtain rfl : y = _ := ry
    split at hc
    · obtain ⟨a, vs, rfl, ha, ra⟩ := rx
      obtain ⟨v, h1, h2⟩ := ra.atI hc
      exact .inl ⟨a, vs, _, v, rfl, rfl, Rep.sqL z ha, h1, k.same z pl h2⟩
    · obtain ⟨a, vs, rfl, ha, ra⟩ := rx
      obtain ⟨v, h1, h2⟩ := ra.atI hc
      exact .inr (.inl ⟨a, vs, _, v, rfl, rfl, Rep.sqT z ha, h1, k.same z pl h2⟩)
    · split at hc
      · rename_i hl
        obtain ⟨q, h1, rfl⟩ := Option.map_eq_some_iff.mp hc
        obtain rfl : x = _ := rx
        exact .inr (.inr ⟨_, _, q, rfl, rfl, hl, h1, k.same z pl rfl⟩)
      · cases hc
    · cases hc
  · cases hc
def notSlice : Expr → Bool
  | .Slice .. => false
  | _ => true
theorem plainIx_of {e : Expr} (h : notSlice e = true) : PlainIx e := by
  cases e <;> first | exact fun _ _ => rfl | cases h
theorem pe_idxD (K : X.K = S.K) {a b : Expr} {fa fb : Env → M D} {pos : Pos} (ha : PE X a (tD S Wx fa)) (hb : PE X b (tD S Wx fb)) (hs : notSlice b = true) : PE X (.Subscript a b pos) (tD S Wx (bind2 idxO fa fb)) :=
  impE (pe_ix ix_seq ha hb (plainIx_of hs)) (by rw [K]; exact tOp_of op2_idx)

/-! ### slices -/
def tP (S : Sx) (Wx : WX) (f : Env → M (Option Int)) : TO := fun σ H Q => ∃ env W g, StOk S W env σ H g ∧ Out S Wx σ W H (f env g) fun o _ _ H' => Q o H'
def noP : Env → M (Option Int) := fun _ => .ret none
def asI : D → Option Int
  | .int i => some i
  | _ => none
def someP (f : Env → M D) : Env → M (Option Int) := fun env => (f env).bind fun d => .of ((asI d).map some)
theorem impO {X : Cx} {e : Option Expr} {t t' : TO} (h : PO X e t) (i : ∀ σ H Q, t' σ H Q → t σ H Q) : PO X e t' := ⟨fun pins s σ H Q I q => h.run pins s σ H Q I (i σ H Q q)⟩
theorem po_noneD : PO X none (tP S Wx noP) := impO po_none fun σ H Q ⟨env, W, g, st, q⟩ => Out.ret (α := Option Int) (a := none) (k := fun o _ _ H' => Q o H') q st.zin st.pool
theorem po_someD {e : Expr} {f : Env → M D} (h : PE X e (tD S Wx f)) : PO X (some e) (tP S Wx (someP f)) := impO (po_some h) fun σ H Q ⟨env, W, g, st, q⟩ => ⟨env, W, g, st, q.bind.mono fun d g1 W1 H1 e1 z1 p1 q1 x rx => by
  obtain ⟨c, hc, q2⟩ := q1.of
  obtain ⟨i, h1, rfl⟩ := Option.map_eq_some_iff.mp hc
  cases d <;> first
    | (cases h1; obtain rfl : x = _ := rx; exact ⟨_, rfl, q2 _ _ .refl z1 p1⟩)
    | cases h1⟩
def cutL {α : Type} (xs : List α) (lo hi : Option Int) : List α := (xs.drop (HT.sIx xs.length 0 lo)).take (HT.sIx xs.length xs.length hi - HT.sIx xs.length 0 lo)
theorem Reps.cut {W : Gh} {ds : List D} {vs : List V} (r : Reps S W ds vs) (lo hi : Option Int) : Reps S W (cutL ds lo hi) (cutV vs lo hi) := by
  unfold cutL cutV
  rw [r.length]
  exact Reps.take _ (Reps.drop _ r)
theorem cut_whole {α : Type} {xs : List α} {lo hi : Option Int} (h : HT.sIx xs.length 0 lo = 0 ∧ HT.sIx xs.length xs.length hi = xs.length) : cutL xs lo hi = xs := by
  unfold cutL
  rw [h.1, h.2]
  simp
def slcO (d : D) (lo hi : Option Int) : Option D := match d with
  | .lst xs => some (.lst (cutL xs lo hi))
  | .tup xs => some (.tup (cutL xs lo hi))
  | .scr ns => some (.lst (cutL (ns.map .int) lo hi))
  | _ => none
def rSlD (K : PySem.W.Frag) : V → Option Int → Option Int → Hp → VK → Prop := fun x lo hi H Q => rSlL K x lo hi H Q ∨ rSlA K x lo hi H Q
theorem sl_D : SlR X (rSlD X.K) := sl_list.or sl_tupA
def slcM (fa : Env → M D) (fl fh : Env → M (Option Int)) : Env → M D := fun env => (fa env).bind fun d => (fl env).bind fun lo => (fh env).bind fun hi => .of (slcO d lo hi)
theorem slc_rep {W : Gh} {H : Hp} {g : G} {x : V} {d c : D} {lo hi : Option Int} {Q : VK} (z : ZIn W H) (pl : PoolIn W H g) (rx : Rep S W d x) (hc : slcO d lo hi = some c) (k : KD S W H g c Q) : rSlD S.K x lo hi H Q := by
  unfold slcO at hc
  split at hc
  · cases hc
    obtain ⟨a, vs, rfl, ha, ra⟩ := rx
    exact .inl ⟨a, vs, rfl, Rep.sqL z ha, fun p hp => k.kf.new z pl ⟨_, rfl, ra.cut lo hi⟩ hp⟩
  · cases hc
    obtain ⟨a, vs, rfl, ha, ra⟩ := rx
    refine .inr ⟨a, vs, rfl, Rep.sqT z ha, fun hw => ?_, fun _ p hp => k.tup z pl (ra.cut lo hi) hp⟩
    have e := cut_whole (xs := _) (lo := lo) (hi := hi) (by rw [← ra.length] at hw; exact hw)
    rw [e] at k
    exact k.same z pl ⟨a, vs, rfl, ha, ra⟩
  · cases hc
    obtain ⟨a, rfl, ha⟩ := rx
    exact .inl ⟨a, _, rfl, sqL_mono z ha, fun p hp => k.kf.new z pl ⟨_, rfl, (Reps.ints _).cut lo hi⟩ hp⟩
  · cases hc
theorem slc_repF {W : Gh} {H : Hp} {g : G} {x : V} {d : D} {cs : List D} {lo hi : Option Int} {Q : VK} (z : ZIn W H) (pl : PoolIn W H g) (rx : Rep S W d x) (hc : slcO d lo hi = some (.lst cs)) (k : KF S W H g (.lst cs) Q) : rSlD S.K x lo hi H Q := by
  unfold slcO at hc
  split at hc
  · cases hc
    obtain ⟨a, vs, rfl, ha, ra⟩ := rx
    exact .inl ⟨a, vs, rfl, Rep.sqL z ha, fun p hp => k.new z pl ⟨_, rfl, ra.cut lo hi⟩ hp⟩
  · cases hc
  · cases hc
    obtain ⟨a, rfl, ha⟩ := rx
    exact .inl ⟨a, _, rfl, sqL_mono z ha, fun p hp => k.new z pl ⟨_, rfl, (Reps.ints _).cut lo hi⟩ hp⟩
  · cases hc
theorem pe_slcD (K : X.K = S.K) {e : Expr} {lo hi : Option Expr} {fa : Env → M D} {fl fh : Env → M (Option Int)} {pos p2 : Pos} (he : PE X e (tD S Wx fa)) (hl : PO X lo (tP S Wx fl)) (hh : PO X hi (tP S Wx fh)) :
    PE X (.Subscript e (.Slice lo hi none p2) pos) (tD S Wx (slcM fa fl fh)) := impE (pe_slice sl_D he hl hh) fun σ H Q ⟨env, W, g, st, q⟩ =>
  ⟨env, W, g, st, q.bind.mono fun d g1 W1 H1 e1 z1 p1 q1 x rx => ⟨env, W1, g1, st.next e1 z1 p1, q1.bind.mono fun l g2 W2 H2 e2 z2 p2 q2 => ⟨env, W2, g2, (st.next e1 z1 p1).next e2 z2 p2, q2.bind.mono fun u g3 W3 H3 e3 z3 p3 q3 => by
    obtain ⟨c, hc, q4⟩ := q3.of
    rw [K]
    exact slc_rep z3 p3 (rx.mono (e2.le.trans e3.le)) hc fun v W' H' e' z' p' r' => q4 W' H' e' z' p' v r'⟩⟩⟩

/-! ### own results: new lists -/
def asL (d : D) : Option D := match d with
  | .lst _ => some d
  | _ => none
def ownM (f : Env → M D) : Env → M D := fun env => (f env).bind fun d => .of (asL d)
theorem asL_some {d c : D} (h : asL d = some c) : ∃ xs, d = .lst xs ∧ c = .lst xs := by
  cases d <;> first
    | (cases h; exact ⟨_, rfl, rfl⟩)
    | cases h
theorem fresh_back {W W1 : Gh} {H H1 : Hp} (e : Ext [] W H W1 H1) {p : Addr} (h : H1 p = none) : H p = none := by
  cases q : H p with
  | none => rfl
  | some u => exact absurd h (e.there p (by rw [q]; simp))
theorem add_repF {W : Gh} {H : Hp} {g : G} {x y : V} {d e : D} {cs : List D} {Q : VK} (z : ZIn W H) (pl : PoolIn W H g) (rx : Rep S W d x) (ry : Rep S W e y) (hc : addD d e = some (.lst cs)) (k : KF S W H g (.lst cs) Q) : rAddA S.K x y H Q := by
  unfold addD at hc
  split at hc
  · cases hc
  · split at hc <;> cases hc
  · split at hc <;> cases hc
  · split at hc
    · rename_i hl
      cases hc
      obtain ⟨a, vs, rfl, ha, ra⟩ := rx
      obtain ⟨b, us, rfl, hb, rb⟩ := ry
      exact .inr (.inr (.inr ⟨a, b, vs, us, rfl, rfl, z _ _ ha, z _ _ hb, by rw [← ra.length, ← rb.length]; exact hl, fun p hp => k.new z pl ⟨_, rfl, ra.append rb⟩ hp⟩))
    · cases hc
  · cases hc
theorem mul_repF {W : Gh} {H : Hp} {g : G} {x y : V} {d e : D} {cs : List D} {Q : VK} (z : ZIn W H) (pl : PoolIn W H g) (rx : Rep S W d x) (ry : Rep S W e y) (hc : mulD d e = some (.lst cs)) (k : KF S W H g (.lst cs) Q) : rMulA S.K x y H Q := by
  unfold mulD at hc
  split at hc
  · split at hc <;> cases hc
  · split at hc
    · rename_i hs
      cases hc
      obtain ⟨a, vs, rfl, ha, ra⟩ := rx
      obtain ⟨h1, h2, h3⟩ := cb_iff.mp hs
      exact .inr (.inl ⟨a, _, vs, rfl, ry, z _ _ ha, h1, h2, by rw [← ra.length]; exact h3, fun p hp => k.new z pl ⟨_, rfl, ra.rep _⟩ hp⟩)
    · cases hc
  · split at hc
    · cases hc
    · split at hc <;> cases hc
  · split at hc <;> cases hc
  · cases hc
theorem pe_addF (K : X.K = S.K) {a b : Expr} {fa fb : Env → M D} {pos : Pos} (ha : PE X a (tD S Wx fa)) (hb : PE X b (tD S Wx fb)) : PE X (.BinOp a .Add b pos) (tF S Wx (ownM (bind2 addD fa fb))) :=
  impE (pe_op op_addA ha hb) fun σ H Q ⟨env, W, g, st, q⟩ => ⟨env, W, g, st, q.bind.bind.mono fun d g1 W1 H1 e1 z1 p1 q1 x rx =>
    ⟨env, W1, g1, st.next e1 z1 p1, q1.bind.mono fun e g2 W2 H2 e2 z2 p2 q2 y ry => by
      obtain ⟨c, hc, q3⟩ := q2.of
      obtain ⟨c', hc', q4⟩ := (q3 _ _ .refl z2 p2).of
      obtain ⟨xs, rfl, rfl⟩ := asL_some hc'
      rw [K]
      exact add_repF z2 p2 (rx.mono e2.le) ry hc fun p o W' H' e' z' p' hp => q4 W' H' e' z' p' p o (fresh_back e1 (fresh_back e2 hp))⟩⟩
theorem pe_mulF (K : X.K = S.K) {a b : Expr} {fa fb : Env → M D} {pos : Pos} (ha : PE X a (tD S Wx fa)) (hb : PE X b (tD S Wx fb)) : PE X (.BinOp a .Mult b pos) (tF S Wx (ownM (bind2 mulD fa fb))) :=
  impE (pe_op op_mulA ha hb) fun σ H Q ⟨env, W, g, st, q⟩ => ⟨env, W, g, st, q.bind.bind.mono fun d g1 W1 H1 e1 z1 p1 q1 x rx =>
    ⟨env, W1, g1, st.next e1 z1 p1, q1.bind.mono fun e g2 W2 H2 e2 z2 p2 q2 y ry => by
      obtain ⟨c, hc, q3⟩ := q2.of
      obtain ⟨c', hc', q4⟩ := (q3 _ _ .refl z2 p2).of
      obtain ⟨xs, rfl, rfl⟩ := asL_some hc'
      rw [K]
      exact mul_repF z2 p2 (rx.mono e2.le) ry hc fun p o W' H' e' z' p' hp => q4 W' H' e' z' p' p o (fresh_back e1 (fresh_back e2 hp))⟩⟩
theorem pe_slcF (K : X.K = S.K) {e : Expr} {lo hi : Option Expr} {fa : Env → M D} {fl fh : Env → M (Option Int)} {pos p2 : Pos} (he : PE X e (tD S Wx fa)) (hl : PO X lo (tP S Wx fl)) (hh : PO X hi (tP S Wx fh)) :
    PE X (.Subscript e (.Slice lo hi none p2) pos) (tF S Wx (ownM (slcM fa fl fh))) := impE (pe_slice sl_D he hl hh) fun σ H Q ⟨env, W, g, st, q⟩ =>
  ⟨env, W, g, st, q.bind.bind.mono fun d g1 W1 H1 e1 z1 p1 q1 x rx => ⟨env, W1, g1, st.next e1 z1 p1, q1.bind.mono fun l g2 W2 H2 e2 z2 p2 q2 => ⟨env, W2, g2, (st.next e1 z1 p1).next e2 z2 p2, q2.bind.mono fun u g3 W3 H3 e3 z3 p3 q3 => by
    obtain ⟨c, hc, q4⟩ := q3.of
    obtain ⟨c', hc', q5⟩ := (q4 _ _ .refl z3 p3).of
    obtain ⟨xs, rfl, rfl⟩ := asL_some hc'
    rw [K]
    exact slc_repF z3 p3 (rx.mono (e2.le.trans e3.le)) hc fun p o W' H' e' z' p' hp => q5 W' H' e' z' p' p o (fresh_back e1 (fresh_back e2 (fresh_back e3 hp)))⟩⟩⟩

/-! ### fields -/
def fldO (cs : List Nat) (f : Str) (d : D) : Option D := match d with
  | .obj c fs => if c ∈ cs then fs.lookup f else none
  | _ => none
/-- an expression whose attribute is taken plainly -/
def plainB : Expr → Bool
  | .Call _ [] _ _ => false
  | _ => true
theorem attr_plain {e : Expr} {f : Str} {env : PySem.Env} (h : plainB e = true) : attributeBase e f env (eval e env) = eval e env := by
  cases e with
  | Call fn as ks p =>
    cases as with
    | nil => cases h
    | cons a as => cases fn <;> rfl
  | _ => rfl
theorem pe_fldD (K : X.K = S.K) {e : Expr} {cs : List Nat} {f : Str} {fa : Env → M D} {pos : Pos} (he : PE X e (tD S Wx fa)) (hp : plainB e = true) (hcl : ∀ c ∈ cs, Cls S.K (S.cls c) ∧ NoAttr S.K (S.cls c) f) :
    PE X (.Attribute e f pos) (tD S Wx (bind1 (fldO cs f) fa)) := impE (pe_fld he (attr_plain hp)) fun σ H Q ⟨env, W, g, st, q⟩ => ⟨env, W, g, st, q.bind.mono fun d g1 W1 H1 e1 z1 p1 q1 x rx => by
  obtain ⟨c, hc, q2⟩ := q1.of
  unfold fldO at hc
  split at hc
  · split at hc
    · rename_i hm
      obtain ⟨a, dx, vfs, rfl, ha, rf⟩ := rx
      obtain ⟨v, h1, h2⟩ := rf.lookup hc
      exact ⟨a, _, dx, vfs, v, rfl, z1 _ _ ha, by rw [K]; exact (hcl _ hm).1, by rw [K]; exact (hcl _ hm).2, h1, q2 _ _ .refl z1 p1 v h2⟩
    · cases hc
  · cases hc⟩

/-! ### calls of defs -/
/-- a def's promise: what it does with deep values -/
def spD (S : Sx) (n : Nat) (s : List D → M D) : Sp := fun vs H Q E => vs.length = n ∧ ∃ W g ds, ZIn W H ∧ PoolIn W H g ∧ Reps S W ds vs ∧ Out S (fun c dx _ H' => E c dx H') [] W H (s ds g) fun d _ W' H' => ∀ v, Rep S W' d v → Q v H'
theorem Out.wx {α : Type} {Wx' : WX} {σ σ' : L2.St} {W : Gh} {H : Hp} {r : R α} {k : α → G → Gh → Hp → Prop} (h : Out S Wx σ W H r k) (hw : ∀ c dx H', Wx c dx σ H' → Wx' c dx σ' H') : Out S Wx' σ' W H r k := by
  cases r with
  | ok a g => exact h
  | err e g => exact fun W' H' c dx e' z' p' r' => hw _ _ _ (h W' H' c dx e' z' p' r')
  | stuck => exact h
/-- a def that is known by its name -/
structure Known (P : Program) (w : World) (S : Sx) (mg : Str → Option Value) (base : Heap) (k : Nat) (x : Str) (n : Nat) (s : List D → M D) : Prop where
  ex : ∃ f fd ps, FnOk P w S.K mg base (L2.CX P w) k f fd ps (spD S n s) ∧ mg x = some (.ref f) ∧ PySem.W.keepIn S.K (.ref f) = true ∧ Binds S.K fd ps []
def callM (n : Nat) (s : List D → M D) (fs : Env → M (List D)) : Env → M D := fun env => (fs env).bind fun ds => if ds.length = n then s ds else .fail
theorem pe_callD {k n : Nat} {x : Str} {s : List D → M D} {p pos : Pos} {e : Expr} {es : List Expr} {fs : Env → M (List D)} (K : X.K = S.K) (kn : Known X.prog X.w S X.mg X.base k x n s) (hr : Room k X.A) (hg : Gl X x) (tk : Takes X Wx)
    (ha : PA X (e :: es) (tA S Wx fs)) (hdb : (x == ("__debug__" : Str)) = false) (hp : (e :: es).all plainX = true) : PE X (.Call (.Name x p) (e :: es) [] pos) (tD S Wx (callM n s fs)) := by
  obtain ⟨f, fd, ps, F, hm, hk, hb⟩ := kn.ex
  simp only [List.all_cons, Bool.and_eq_true] at hp
  rw [← K] at F hk hb
  refine impE (pe_callS F hr hg hm hk hb (passAt tk) ha hdb (starEach_plain hp.1) (noafter hp.2)) fun σ H Q ⟨env, W, g, st, q⟩ => ⟨env, W, g, st, q.bind.mono fun ds g1 W1 H1 e1 z1 p1 q1 vs rs => ?_⟩
  by_cases hn : ds.length = n
  · rw [if_pos hn] at q1
    exact ⟨by rw [← rs.length]; exact hn, W1, g1, ds, z1, p1, rs, q1.wx fun _ _ _ h => h⟩
  · rw [if_neg hn] at q1
    exact q1.elim
/-- a def that gives back a new object of its own -/
def spN (S : Sx) (n : Nat) (s : List D → M D) : Sp := fun vs H Q E => vs.length = n ∧ ∃ W g ds, ZIn W H ∧ PoolIn W H g ∧ Reps S W ds vs ∧
  Out S (fun c dx _ H' => E c dx H') [] W H (s ds g) fun d _ W' H' => ∀ p o, H p = none → W'.Z p = none → ¬ inPool W' p → H' p = some o → RepO S W' d o → Q (.ref p) H'
structure KnownN (P : Program) (w : World) (S : Sx) (mg : Str → Option Value) (base : Heap) (k : Nat) (x : Str) (n : Nat) (s : List D → M D) : Prop where
  ex : ∃ f fd ps, FnOk P w S.K mg base (L2.CX P w) k f fd ps (spN S n s) ∧ mg x = some (.ref f) ∧ PySem.W.keepIn S.K (.ref f) = true ∧ Binds S.K fd ps []
theorem pe_callN {k n : Nat} {x : Str} {s : List D → M D} {p pos : Pos} {e : Expr} {es : List Expr} {fs : Env → M (List D)} (K : X.K = S.K) (kn : KnownN X.prog X.w S X.mg X.base k x n s) (hr : Room k X.A) (hg : Gl X x) (tk : Takes X Wx)
    (ha : PA X (e :: es) (tA S Wx fs)) (hdb : (x == ("__debug__" : Str)) = false) (hp : (e :: es).all plainX = true) : PE X (.Call (.Name x p) (e :: es) [] pos) (tF S Wx (callM n s fs)) := by
  obtain ⟨f, fd, ps, F, hm, hk, hb⟩ := kn.ex
  simp only [List.all_cons, Bool.and_eq_true] at hp
  rw [← K] at F hk hb
  refine impE (pe_callS F hr hg hm hk hb (passAt tk) ha hdb (starEach_plain hp.1) (noafter hp.2)) fun σ H Q ⟨env, W, g, st, q⟩ => ⟨env, W, g, st, q.bind.mono fun ds g1 W1 H1 e1 z1 p1 q1 vs rs => ?_⟩
  by_cases hn : ds.length = n
  · rw [if_pos hn] at q1
    refine ⟨by rw [← rs.length]; exact hn, W1, g1, ds, z1, p1, rs, (q1.wx fun _ _ _ h => h).mono fun d g2 W2 H2 _ _ _ q2 p o hp1 => q2 p o ?_⟩
    cases t : H p with
    | none => rfl
    | some u => exact absurd hp1 (e1.there p (by rw [t]; simp))
  · rw [if_neg hn] at q1
    exact q1.elim
/-- x() -/
theorem pe_call0D {k : Nat} {x : Str} {s : List D → M D} {p pos : Pos} (K : X.K = S.K) (kn : Known X.prog X.w S X.mg X.base k x 0 s) (hr : Room k X.A) (hg : Gl X x) (tk : Takes X Wx)
    (hdb : (x == ("__debug__" : Str)) = false) : PE X (.Call (.Name x p) [] [] pos) (tD S Wx fun _ => s []) := by
  obtain ⟨f, fd, ps, F, hm, hk, hb⟩ := kn.ex
  rw [← K] at F hk hb
  refine ⟨fun pins s1 σ H Q I ⟨env, W, g, st, q⟩ => ?_⟩
  refine wpAny_Call_Name_kw (ld_glob I hg hm ?_ hdb)
  exact PySem.W.callWith_K0 I.kIn hk (run_fnS (us := []) F hr hb (passAt tk σ) I .nil ⟨rfl, W, g, [], st.zin, st.pool, trivial, q.wx fun _ _ _ h => h⟩)
/-- a def that makes a pool of its own: called as if there were none, it gives back a flag -/
def isScr : D → Bool
  | .scr _ => true
  | _ => false
def isBl : D → Bool
  | .bl _ => true
  | _ => false
def flagM (r : R D) (g : G) : R D := match r with
  | .ok d _ => if isBl d = true then .ok d g else .stuck
  | _ => .stuck
def callF (n : Nat) (s : List D → M D) (fs : Env → M (List D)) : Env → M D := fun env => (fs env).bind fun ds => if ds.length = n ∧ ds.all isScr = true then fun g => flagM (s ds none) g else .fail
theorem reps_scr {W : Gh} : ∀ {ds : List D} {vs : List V}, ds.all isScr = true → Reps S W ds vs → Reps S ⟨W.Z, none⟩ ds vs
  | [], [], _, _ => trivial
  | [], _ :: _, _, h => h.elim
  | _ :: _, [], _, h => h.elim
  | d :: ds, v :: vs, h, r => by
    rw [List.all_cons, Bool.and_eq_true] at h
    refine ⟨?_, reps_scr h.2 r.2⟩
    cases d <;> first
      | exact r.1
      | cases h.1
theorem pe_callFD {k n : Nat} {x : Str} {s : List D → M D} {p pos : Pos} {e : Expr} {es : List Expr} {fs : Env → M (List D)} (K : X.K = S.K) (kn : Known X.prog X.w S X.mg X.base k x n s) (hr : Room k X.A) (hg : Gl X x) (tk : Takes X Wx)
    (ha : PA X (e :: es) (tA S Wx fs)) (hdb : (x == ("__debug__" : Str)) = false) (hp : (e :: es).all plainX = true) : PE X (.Call (.Name x p) (e :: es) [] pos) (tD S Wx (callF n s fs)) := by
  obtain ⟨f, fd, ps, F, hm, hk, hb⟩ := kn.ex
  simp only [List.all_cons, Bool.and_eq_true] at hp
  rw [← K] at F hk hb
  refine impE (pe_callS F hr hg hm hk hb (passAt tk) ha hdb (starEach_plain hp.1) (noafter hp.2)) fun σ H Q ⟨env, W, g, st, q⟩ => ⟨env, W, g, st, q.bind.mono fun ds g1 W1 H1 e1 z1 p1 q1 vs rs => ?_⟩
  by_cases hn : ds.length = n ∧ ds.all isScr = true
  · rw [if_pos hn] at q1
    unfold flagM at q1
    refine ⟨by rw [← rs.length]; exact hn.1, ⟨W1.Z, none⟩, none, ds, z1, rfl, reps_scr hn.2 rs, ?_⟩
    revert q1
    cases s ds none with
    | stuck => exact fun q => q.elim
    | err x g2 => exact fun q => q.elim
    | ok d g2 =>
      intro q1 W' H' e' z' p' v rv
      simp only at q1
      split at q1
      · rename_i hb
        have kp : ∀ a o, H1 a = some o → H' a = some o := fun a o h => e'.keep a o h (fun ⟨x, l, hpl, _⟩ => by cases hpl) (by simp)
        have e2 : Ext [] W1 H1 W1 H' := ⟨.refl, fun a o h _ _ => kp a o h, e'.there, fun a o h => .inl h, fun a h => .inl h⟩
        have z2 : ZIn W1 H' := fun a o h => kp a o (z1 a o h)
        have p2 : PoolIn W1 H' g1 := by
          cases g1 with
          | none => exact p1
          | some p =>
            obtain ⟨a, l, h1, h2, h3, h4, h5, h6⟩ := p1
            exact ⟨a, l, h1, h2, h3, h4, kp _ _ h5, kp _ _ h6⟩
        refine q1 W1 H' e2 z2 p2 v ?_
        cases d <;> first
          | exact rv
          | cases hb
      · exact q1.elim
  · rw [if_neg hn] at q1
    exact q1.elim
end
end Dv
end
section
set_option maxHeartbeats 400000
/-! DvF: iterables, comprehensions. -/
namespace Dv
open PySem PySem.Spec PyProof.Rows L2

/-- J walks the things ds -/
structure ItOk (S : Sx) (W : Gh) (ds : List D) (J : It) : Prop where
  go : ∀ (i : Nat) (H : Hp), ZIn W H → i < ds.length → J.go i H
  stop : ∀ (i : Nat) (H : Hp), ZIn W H → ds.length ≤ i → J.stop i H
  yld : ∀ (i : Nat) (H : Hp) (x : V) (H' : Hp) (d : D), ZIn W H → J.yld i H x H' → ds[i]? = some d → ∀ (W1 : Gh) (g : G), Le W W1 → ZIn W1 H → PoolIn W1 H g → ∃ W2, Ext [] W1 H W2 H' ∧ ZIn W2 H' ∧ PoolIn W2 H' g ∧ Rep S W2 d x
theorem ZIn.le {W W' : Gh} {H : Hp} (z : ZIn W' H) (l : Le W W') : ZIn W H := fun a o e => z a o (l.z a o e)
theorem ItOk.mono {S : Sx} {W W' : Gh} {ds : List D} {J : It} (h : ItOk S W ds J) (l : Le W W') : ItOk S W' ds J :=
  ⟨fun i H z => h.go i H (z.le l), fun i H z => h.stop i H (z.le l), fun i H x H' d z y e W1 g l1 => h.yld i H x H' d (z.le l) y e W1 g (l.trans l1)⟩
def tI (S : Sx) (Wx : WX) (f : Env → M (List D)) : TI := fun σ H R => ∃ env W g, StOk S W env σ H g ∧ Out S Wx σ W H (f env g) fun ds _ W' H' => ∀ J, ItOk S W' ds J → R J H'
section
variable {S : Sx} {X : Cx} {Wx : WX}
def rngD (lo : Int) (n : Nat) : List D := (List.range n).map fun i => .int (lo + (i : Nat))
theorem rngD_len (lo : Int) (n : Nat) : (rngD lo n).length = n := by simp [rngD]
theorem itr_ok (W : Gh) (lo : Int) (n : Nat) : ItOk S W (rngD lo n) (Itr lo n) where
  go := fun i H _ h => by rw [rngD_len] at h; exact h
  stop := fun i H _ h => by rw [rngD_len] at h; exact h
  yld := fun i H x H' d _ y e W1 g _ z p => by
    obtain ⟨rfl, rfl⟩ := y
    refine ⟨W1, .refl, z, p, ?_⟩
    have hi : i < n := by
      have := List.getElem?_eq_some_iff.mp e
      obtain ⟨h, _⟩ := this
      rw [rngD_len] at h; exact h
    have e' : d = .int (lo + (i : Nat)) := by
      unfold rngD at e
      rw [List.getElem?_map, List.getElem?_range hi] at e
      exact (Option.some.inj e).symm
    rw [e']
    rfl
theorem itl_ok {W : Gh} {a : Addr} {vs : List V} {ds : List D} (ha : W.Z a = some (.lst vs)) (r : Reps S W ds vs) : ItOk S W ds (Itl S.K a) where
  go := fun i H z h => ⟨vs, vs[i]'(by rw [← r.length]; exact h), Rep.sqL z ha, by simp⟩
  stop := fun i H z h => ⟨vs, Rep.sqL z ha, by rw [← r.length]; exact h⟩
  yld := fun i H x H' d z y e W1 g l z1 p => by
    obtain ⟨rfl, hx⟩ := y
    obtain ⟨v, h1, h2⟩ := r.get e
    have := hx vs (Rep.sqL z ha)
    rw [h1] at this
    cases this
    exact ⟨W1, .refl, z1, p, h2.mono l⟩
theorem itt_ok {W : Gh} {a : Addr} {vs : List V} {ds : List D} (ha : W.Z a = some (.tup vs)) (r : Reps S W ds vs) : ItOk S W ds (Itt S.K a) where
  go := fun i H z h => ⟨vs, vs[i]'(by rw [← r.length]; exact h), Rep.sqT z ha, by simp⟩
  stop := fun i H z h => ⟨vs, Rep.sqT z ha, by rw [← r.length]; exact h⟩
  yld := fun i H x H' d z y e W1 g l z1 p => by
    obtain ⟨rfl, hx⟩ := y
    obtain ⟨v, h1, h2⟩ := r.get e
    have := hx vs (Rep.sqT z ha)
    rw [h1] at this
    cases this
    exact ⟨W1, .refl, z1, p, h2.mono l⟩
/-- a list or a tuple, walked -/
def iSeq (K : PySem.W.Frag) (tl : TE) : TI := fun σ H R => tl σ H fun x H1 => ∃ a, x = .ref a ∧ (((∃ xs, SqL K H1 a xs) ∧ R (Itl K a) H1) ∨ ((∃ xs, SqT K H1 a xs) ∧ R (Itt K a) H1))
theorem pi_seq {tg l : Expr} {tl : TE} (hl : PE X l tl) : PI X tg l (iSeq X.K tl) := by
  constructor
  intro pins s σ H R I hw
  refine thn (hl.run pins s σ H _ I hw) fun v s1 hv => ?_
  obtain ⟨x, H1, I1, r1, a, rfl, hq⟩ := hv
  cases r1
  have fresh := I1.hok.fresh (Nat.le_refl s1.heap.objs.size)
  have more : ∀ (o : Obj), Inv X pins σ H1 { s1 with heap := s1.heap.push o } := fun o => I1.kept (t' := s1.toks) fun b u q => Heap.get?_push_of_some _ q
  have foot : ∀ b ∈ [s1.heap.objs.size], FpOk X pins H1 b := fun b hb => by
    rw [List.mem_singleton.mp hb]
    exact I1.fpOk (Nat.le_refl _) fresh
  rcases hq with ⟨⟨xs, hs⟩, q⟩ | ⟨⟨xs, hs⟩, q⟩
  · obtain ⟨its, _, pl, _⟩ := I1.list hs
    exact wpAny_pyIter_list pl.isList ⟨_, [s1.heap.objs.size], _, _, H1, rfl, more _, turn_list a _, ⟨_, Heap.get?_push_size _ rfl, rfl, rfl⟩, foot, q⟩
  · obtain ⟨its, _, pl, _⟩ := I1.tuple hs
    exact wpAny_pyIter_tuple (show s1.heap.IsTuple a its.toArray from pl) ⟨_, [s1.heap.objs.size], _, _, H1, rfl, more _, turn_tuple a _, ⟨_, Heap.get?_push_size _ rfl, rfl, rfl⟩, foot, q⟩
def seqO (d : D) : Option (List D) := match d with
  | .lst xs => some xs
  | .tup xs => some xs
  | _ => none
def seqM (f : Env → M D) : Env → M (List D) := fun env => (f env).bind fun d => .of (seqO d)
theorem pi_seqD (K : X.K = S.K) {tg l : Expr} {f : Env → M D} (hl : PE X l (tD S Wx f)) : PI X tg l (tI S Wx (seqM f)) := impI (pi_seq hl) fun σ H R ⟨env, W, g, st, q⟩ => ⟨env, W, g, st, q.bind.mono fun d g1 W1 H1 e1 z1 p1 q1 x rx => by
  obtain ⟨ds, hd, q2⟩ := q1.of
  rw [K]
  unfold seqO at hd
  split at hd
  · cases hd
    obtain ⟨a, vs, rfl, ha, ra⟩ := rx
    exact ⟨a, rfl, .inl ⟨⟨vs, Rep.sqL z1 ha⟩, q2 _ _ .refl z1 p1 _ (itl_ok ha ra)⟩⟩
  · cases hd
    obtain ⟨a, vs, rfl, ha, ra⟩ := rx
    exact ⟨a, rfl, .inr ⟨⟨vs, Rep.sqT z1 ha⟩, q2 _ _ .refl z1 p1 _ (itt_ok ha ra)⟩⟩
  · cases hd⟩
def inR (i : Int) : Bool := cb (-(2 ^ 62) ≤ i ∧ i < 2 ^ 62)
theorem inR_ok {i : Int} (h : inR i = true) : -(2 ^ 62) ≤ i ∧ i < 2 ^ 62 := cb_iff.mp h
def rng1O (ds : List D) : Option (List D) := match ds with
  | [.int j] => if inR j then some (rngD 0 j.toNat) else none
  | _ => none
def rng2O (ds : List D) : Option (List D) := match ds with
  | [.int i, .int j] => if inR i && inR j then some (rngD i (j - i).toNat) else none
  | _ => none
def thenL (fs : Env → M (List D)) (F : List D → Option (List D)) : Env → M (List D) := fun env => (fs env).bind fun ds => .of (F ds)
theorem reps1 {W : Gh} {i : Int} {vs : List V} (r : Reps S W [.int i] vs) : vs = [.int i] := by
  cases vs with
  | nil => exact r.elim
  | cons v vs =>
    cases vs with
    | nil => obtain ⟨r1, _⟩ := r; obtain rfl : v = _ := r1; rfl
    | cons _ _ => exact r.2.elim
theorem reps2 {W : Gh} {i j : Int} {vs : List V} (r : Reps S W [.int i, .int j] vs) : vs = [.int i, .int j] := by
  cases vs with
  | nil => exact r.elim
  | cons v vs =>
    obtain ⟨r1, r2⟩ := r
    obtain rfl : v = _ := r1
    rw [reps1 r2]
theorem pi_rng1 {tg a : Expr} {fs : Env → M (List D)} {p pos : Pos} (hg : Gl X "range") (hm : X.mg "range" = none) (ha : PA X [a] (tA S Wx fs)) (hp : plainX a = true) : PI X tg (.Call (.Name "range" p) [a] [] pos) (tI S Wx (thenL fs rng1O)) :=
  impI (pi_range1 hg hm ha (starEach_plain hp)) fun σ H R ⟨env, W, g, st, q⟩ => ⟨env, W, g, st, q.bind.mono fun ds g1 W1 H1 e1 z1 p1 q1 vs rs => by
    obtain ⟨xs, hx, q2⟩ := q1.of
    unfold rng1O at hx
    split at hx
    · split at hx
      · rename_i hr
        cases hx
        obtain ⟨h1, h2⟩ := inR_ok hr
        exact ⟨_, reps1 rs, h1, h2, q2 _ _ .refl z1 p1 _ (itr_ok W1 0 _)⟩
      · cases hx
    · cases hx⟩
theorem pi_rng2 {tg a b : Expr} {fs : Env → M (List D)} {p pos : Pos} (hg : Gl X "range") (hm : X.mg "range" = none) (ha : PA X [a, b] (tA S Wx fs)) (hp : plainX a = true) (hp2 : plainX b = true) :
    PI X tg (.Call (.Name "range" p) [a, b] [] pos) (tI S Wx (thenL fs rng2O)) :=
  impI (pi_range2 hg hm ha (by rw [starEach_plain hp, starEach_plain hp2]; rfl) (by rw [starEach_plain hp2]; rfl)) fun σ H R ⟨env, W, g, st, q⟩ => ⟨env, W, g, st, q.bind.mono fun ds g1 W1 H1 e1 z1 p1 q1 vs rs => by
    obtain ⟨xs, hx, q2⟩ := q1.of
    unfold rng2O at hx
    split at hx
    · split at hx
      · rename_i hr
        cases hx
        simp only [Bool.and_eq_true] at hr
        obtain ⟨h1, h2⟩ := inR_ok hr.1
        obtain ⟨h3, h4⟩ := inR_ok hr.2
        exact ⟨_, _, reps2 rs, ⟨h1, h2, h3, h4⟩, q2 _ _ .refl z1 p1 _ (itr_ok W1 _ _)⟩
      · cases hx
    · cases hx⟩
/-! zip, reversed, enumerate of a list -/
def zipD (xs ys : List D) : List D := (xs.zip ys).map fun p => .tup [p.1, p.2]
theorem zipD_get {xs ys : List D} {i : Nat} {d : D} (h : (zipD xs ys)[i]? = some d) : ∃ x y, xs[i]? = some x ∧ ys[i]? = some y ∧ d = .tup [x, y] := by
  unfold zipD at h
  rw [List.getElem?_map] at h
  obtain ⟨⟨x, y⟩, h1, rfl⟩ := Option.map_eq_some_iff.mp h
  rw [List.getElem?_zip_eq_some] at h1
  exact ⟨x, y, h1.1, h1.2, rfl⟩
theorem zipD_len (xs ys : List D) : (zipD xs ys).length = min xs.length ys.length := by simp [zipD]
theorem new_tup {W1 : Gh} {H : Hp} {g : G} {T : Addr} {ds : List D} {vs : List V} (z : ZIn W1 H) (p : PoolIn W1 H g) (hT : H T = none) (r : Reps S W1 ds vs) :
    ∃ W2, Ext [] W1 H W2 (upd H T (.tup vs)) ∧ ZIn W2 (upd H T (.tup vs)) ∧ PoolIn W2 (upd H T (.tup vs)) g ∧ Rep S W2 (.tup ds) (.ref T) :=
  ⟨frz W1 T (.tup vs), Ext.laid z hT, z.laid hT, p.laid hT, T, vs, rfl, upd_same, r.mono (frz_le (noZ z hT))⟩
theorem itz_ok {W : Gh} {a b : Addr} {vs us : List V} {ds es : List D} (ha : W.Z a = some (.lst vs)) (hb : W.Z b = some (.lst us)) (r : Reps S W ds vs) (q : Reps S W es us) : ItOk S W (zipD ds es) (Itz S.K a b) where
  go := fun i H z h => by
    rw [zipD_len] at h
    have h1 : i < vs.length := by rw [← r.length]; omega
    have h2 : i < us.length := by rw [← q.length]; omega
    exact ⟨vs, us, vs[i], us[i], Rep.sqL z ha, Rep.sqL z hb, by simp, by simp⟩
  stop := fun i H z h => by
    rw [zipD_len] at h
    refine ⟨vs, us, Rep.sqL z ha, Rep.sqL z hb, ?_⟩
    rw [← r.length, ← q.length]
    omega
  yld := fun i H x H' d z y e W1 g l z1 p => by
    obtain ⟨T, x1, x2, rfl, hT, rfl, f1, f2⟩ := y
    obtain ⟨d1, d2, h1, h2, rfl⟩ := zipD_get e
    obtain ⟨v1, k1, r1⟩ := r.get h1
    obtain ⟨v2, k2, r2⟩ := q.get h2
    have e1 := f1 vs (Rep.sqL z ha)
    have e2 := f2 us (Rep.sqL z hb)
    rw [k1] at e1; cases e1
    rw [k2] at e2; cases e2
    exact new_tup z1 p hT ⟨r1.mono l, r2.mono l, trivial⟩
theorem itzT_ok {W : Gh} {a b : Addr} {vs us : List V} {ds es : List D} (ha : W.Z a = some (.tup vs)) (hb : W.Z b = some (.tup us)) (r : Reps S W ds vs) (q : Reps S W es us) : ItOk S W (zipD ds es) (RZ.ItzT S.K a b) where
  go := fun i H z h => by
    rw [zipD_len] at h
    have h1 : i < vs.length := by rw [← r.length]; omega
    have h2 : i < us.length := by rw [← q.length]; omega
    exact ⟨vs, us, vs[i], us[i], Rep.sqT z ha, Rep.sqT z hb, by simp, by simp⟩
  stop := fun i H z h => by
    rw [zipD_len] at h
    refine ⟨vs, us, Rep.sqT z ha, Rep.sqT z hb, ?_⟩
    rw [← r.length, ← q.length]
    omega
  yld := fun i H x H' d z y e W1 g l z1 p => by
    obtain ⟨T, x1, x2, rfl, hT, rfl, f1, f2⟩ := y
    obtain ⟨d1, d2, h1, h2, rfl⟩ := zipD_get e
    obtain ⟨v1, k1, r1⟩ := r.get h1
    obtain ⟨v2, k2, r2⟩ := q.get h2
    have e1 := f1 vs (Rep.sqT z ha)
    have e2 := f2 us (Rep.sqT z hb)
    rw [k1] at e1; cases e1
    rw [k2] at e2; cases e2
    exact new_tup z1 p hT ⟨r1.mono l, r2.mono l, trivial⟩
def zipO (ds : List D) : Option (List D) := match ds with
  | [.lst xs, .lst ys] => some (zipD xs ys)
  | [.tup xs, .tup ys] => some (zipD xs ys)
  | _ => none
theorem reps_two {W : Gh} {d e : D} {vs : List V} (r : Reps S W [d, e] vs) : ∃ v u, vs = [v, u] ∧ Rep S W d v ∧ Rep S W e u := by
  cases vs with
  | nil => exact r.elim
  | cons v vs =>
    cases vs with
    | nil => exact r.2.elim
    | cons u vs =>
      cases vs with
      | nil => exact ⟨v, u, rfl, r.1, r.2.1⟩
      | cons _ _ => exact r.2.2.elim
theorem pi_zipD (K : X.K = S.K) {a b : Expr} {fs : Env → M (List D)} {p pos tpos : Pos} {elts : List Expr} {kk : Nat} (hg : Gl X "zip") (hm : X.mg "zip" = none) (ha : PA X [a, b] (tA S Wx fs)) (hp : plainX a = true) (hp2 : plainX b = true) :
    PI X (.Tuple elts kk tpos) (.Call (.Name "zip" p) [a, b] [] pos) (tI S Wx (thenL fs zipO)) :=
  impI (RZ.pi_zipA hg hm ha (starEach_plain hp) (noafter (by simp [hp2]))) fun σ H R ⟨env, W, g, st, q⟩ => ⟨env, W, g, st, q.bind.mono fun ds g1 W1 H1 e1 z1 p1 q1 vs rs => by
    obtain ⟨xs, hx, q2⟩ := q1.of
    rw [K]
    unfold zipO at hx
    split at hx
    · cases hx
      obtain ⟨v, u, rfl, ⟨a, us, rfl, h1, r1⟩, b, ws, rfl, h2, r2⟩ := reps_two rs
      exact ⟨a, b, us, ws, rfl, .inl ⟨Rep.sqL z1 h1, Rep.sqL z1 h2, q2 _ _ .refl z1 p1 _ (itz_ok h1 h2 r1 r2)⟩⟩
    · cases hx
      obtain ⟨v, u, rfl, ⟨a, us, rfl, h1, r1⟩, b, ws, rfl, h2, r2⟩ := reps_two rs
      exact ⟨a, b, us, ws, rfl, .inr ⟨Rep.sqT z1 h1, Rep.sqT z1 h2, q2 _ _ .refl z1 p1 _ (itzT_ok h1 h2 r1 r2)⟩⟩
    · cases hx⟩
end

/-! ### targets -/
inductive Tg where
  | one (i : Nat) | many (is : List Nat)
def setAll : List Nat → List D → Env → Env
  | i :: is, d :: ds, env => setAll is ds (env.set i (some (d, false)))
  | _, _, env => env
def setTg (t : Tg) (d : D) (env : Env) : Option Env := match t with
  | .one i => some (env.set i (some (d, false)))
  | .many is => match d with
    | .tup ds => if is.length = ds.length then some (setAll is ds env) else none
    | _ => none
/-- names in slots -/
def gAll : List Nat → List V → L2.St → L2.St
  | i :: is, v :: vs, σ => gAll is vs (σ.set i (some v))
  | _, _, σ => σ
def gTg (K : PySem.W.Frag) (t : Tg) : TG := match t with
  | .one i => gName i
  | .many is => fun v σ H Q => ∃ a vs, v = .ref a ∧ SqT K H a vs ∧ vs.length = is.length ∧ Q (gAll is vs σ) H
section
variable {S : Sx} {X : Cx} {Wx : WX}
theorem slots_set {W : Gh} {env : Env} {σ : L2.St} {i : Nat} {d : D} {v : V} {b : Bool} (h : SlotsOk S W env σ) (l : env.length = σ.length) (r : Rep S W d v) : SlotsOk S W (env.set i (some (d, b))) (σ.set i (some v)) := fun j e c q => by
  by_cases hj : i = j
  · subst hj
    by_cases hi : i < env.length
    · rw [List.getElem?_set_self hi] at q
      cases q
      exact ⟨v, List.getElem?_set_self (by rw [← l]; exact hi), r⟩
    · rw [List.getElem?_eq_none (by simpa using hi)] at q
      cases q
  · rw [List.getElem?_set_ne hj] at q ⊢
    exact h j e c q
theorem slots_all {W : Gh} : ∀ {is : List Nat} {ds : List D} {vs : List V} {env : Env} {σ : L2.St}, SlotsOk S W env σ → env.length = σ.length → Reps S W ds vs → SlotsOk S W (setAll is ds env) (gAll is vs σ) ∧ (setAll is ds env).length = (gAll is vs σ).length
  | [], _, _, env, σ, h, l, _ => by
    unfold setAll gAll
    exact ⟨h, l⟩
  | i :: is, [], [], env, σ, h, l, _ => by
    unfold setAll gAll
    exact ⟨h, l⟩
  | i :: is, d :: ds, v :: vs, env, σ, h, l, r => slots_all (is := is) (slots_set h l r.1) (by simpa using l) r.2
  | _ :: _, [], _ :: _, _, _, _, _, r => r.elim
  | _ :: _, _ :: _, [], _, _, _, _, r => r.elim
theorem gAll_length : ∀ (is : List Nat) (vs : List V) (σ : L2.St), (gAll is vs σ).length = σ.length
  | [], _, _ => by unfold gAll; rfl
  | _ :: _, [], _ => by unfold gAll; rfl
  | i :: is, v :: vs, σ => by
    show (gAll is vs (σ.set i (some v))).length = _
    rw [gAll_length is vs, List.length_set]
theorem setAll_length : ∀ (is : List Nat) (vs : List D) (σ : Env), (setAll is vs σ).length = σ.length
  | [], _, _ => by unfold setAll; rfl
  | _ :: _, [], _ => by unfold setAll; rfl
  | i :: is, v :: vs, σ => by
    show (setAll is vs (σ.set i (some (v, false)))).length = _
    rw [setAll_length is vs, List.length_set]
/-- names of the def, one after another -/
theorem pgs_names {N : List Str} (hN : X.N = N) (nd : N.Nodup) : ∀ {es : List Expr} {is : List Nat}, (∀ (k : Nat) (e : Expr), es[k]? = some e → ∃ x p i, e = .Name x p ∧ is[k]? = some i ∧ N[i]? = some x ∧ Loc X.env.scope x ∧ (X.fn x = true ∨ X.env.scope.names.lookup x = some .local)) → es.length = is.length →
    PGs X es fun vs σ H Q => vs.length = is.length ∧ Q (gAll is vs σ) H
  | [], [], _, _ => ⟨fun pins s σ H vs us Q I r h => pgs_nil.run pins s σ H vs us Q I r ⟨List.length_eq_zero_iff.mp h.1, by
      have e : vs = [] := List.length_eq_zero_iff.mp h.1
      subst e
      exact h.2⟩⟩
  | e :: es, i :: is, hk, hl => by
    obtain ⟨x, p, j, rfl, h1, h2, h3, h4⟩ := hk 0 e rfl
    cases h1
    have rest := pgs_names hN nd (es := es) (is := is) (fun k e q => hk (k + 1) e q) (by simpa using hl)
    refine ⟨fun pins s σ H vs us Q I r h => ?_⟩
    refine (pgs_cons (pg_name (i := i) (by rw [hN]; exact nd) (by rw [hN]; exact h2) h3 h4) rest).run pins s σ H vs us Q I r ?_
    cases vs with
    | nil => exact absurd h.1 (by simp)
    | cons v vs => exact ⟨v, vs, rfl, by simpa using h.1, h.2⟩
  | [], _ :: _, _, hl => by simp at hl
  | _ :: _, [], _, hl => by simp at hl
theorem assignEach_names {env : PySem.Env} : ∀ {es : List Expr}, (∀ e ∈ es, ∃ x p, e = .Name x p) → (assignEach es env).length = es.length ∧ (assignEach es env).findIdx? (·.1) = none
  | [], _ => ⟨rfl, rfl⟩
  | e :: es, h => by
    obtain ⟨x, p, rfl⟩ := h e List.mem_cons_self
    obtain ⟨h1, h2⟩ := assignEach_names (env := env) fun e he => h e (List.mem_cons_of_mem _ he)
    refine ⟨by show _ + 1 = _ + 1; rw [h1], ?_⟩
    show ((false, assign (.Name x p) env) :: assignEach es env).findIdx? (·.1) = none
    rw [List.findIdx?_cons, h2]
    rfl
/-- a name, or a tuple of names, in their slots -/
def chkTg (N : List Str) (sc : Scope) (fn : Bool) (t : Tg) (e : Expr) : Bool :=
  let nm := fun (i : Nat) (e : Expr) => match e with
    | .Name x _ => decide (N[i]? = some x) && (match sc.names.lookup x with | some .local => true | some .cell => true | _ => false)
    | _ => false
  match t, e with
  | .one i, e => nm i e
  | .many is, .Tuple es _ _ => decide (es.length = is.length) && (es.zip is).all fun p => nm p.2 p.1
  | _, _ => false
end
end Dv
end
section
set_option maxHeartbeats 800000
/-! DvFa: x[::-1], len(set(x)), list(range(..)), x.index(y), enumerate(x). -/
namespace Dv
open PySem PySem.Spec PyProof.Rows L2
def revO (d : D) : Option D := match d with
  | .lst xs => some (.lst xs.reverse)
  | .tup xs => some (.tup xs.reverse)
  | _ => none
def lsetO (d : D) : Option D := match d with
  | .lst xs => (intsD xs).bind fun ns => if ns.length ≤ 4000 then some (.int (distN ns : Nat)) else none
  | _ => none
/-- the different ones, ascending -/
def dedI : List Int → List Int
  | [] => []
  | n :: r => if n ∈ dedI r then dedI r else n :: dedI r
def sortU (ns : List Int) : List Int := sortI (dedI ns)
theorem mem_dedI : ∀ {ns : List Int} {k : Int}, k ∈ dedI ns ↔ k ∈ ns
  | [], _ => Iff.rfl
  | n :: r, k => by
    unfold dedI
    split
    · rename_i h
      rw [List.mem_cons, mem_dedI]
      constructor
      · exact fun q => .inr q
      · rintro (rfl | q)
        · exact mem_dedI.mp h
        · exact q
    · rw [List.mem_cons, List.mem_cons, mem_dedI]
theorem dedI_nodup : ∀ ns : List Int, (dedI ns).Nodup
  | [] => List.nodup_nil
  | n :: r => by
    unfold dedI
    split
    · exact dedI_nodup r
    · rename_i h
      exact List.nodup_cons.mpr ⟨h, dedI_nodup r⟩
theorem sortU_uniq {ns ms : List Int} (h : ms.Pairwise (· < ·)) (hm : ∀ k, k ∈ ms ↔ k ∈ ns) : ms = sortU ns := by
  have nd : ms.Nodup := h.imp fun {a b} q e => by omega
  have nd2 : (sortU ns).Nodup := (sortI_perm _).nodup_iff.mpr (dedI_nodup ns)
  have p : ms.Perm (sortU ns) := (List.perm_ext_iff_of_nodup nd nd2).mpr fun k => by
    rw [hm k]
    unfold sortU
    rw [(sortI_perm _).mem_iff, mem_dedI]
  exact sorted_unique p (h.imp fun {a b} q => Int.le_of_lt q) (sortI_sorted _)
def ssetO (d : D) : Option D := match d with
  | .lst xs => (intsD xs).bind fun ns => if ns.length < 64 then some (.lst ((sortU ns).map .int)) else none
  | _ => none
def rgOk (a b : Int) : Bool := cb (RgOk a b)
def rgL (t : Bool) (a b : Int) : D := if t then .tup (rngD a (b - a).toNat) else .lst (rngD a (b - a).toNat)
def rgO (t : Bool) (ds : List D) : Option D := match ds with
  | [.int n] => if rgOk 0 n then some (rgL t 0 n) else none
  | [.int i, .int j] => if rgOk i j then some (rgL t i j) else none
  | _ => none
def idmO (d e : D) : Option D := match d with
  | .lst ds => if flatD e && ds.all flatD then (ds.findIdx? fun z => eqV (toV z) (toV e)).map fun j => .int (j : Nat) else none
  | _ => none
def enumD : Nat → List D → List D
  | _, [] => []
  | k, d :: r => .tup [.int (k : Nat), d] :: enumD (k + 1) r
def enumO (ds : List D) : Option (List D) := match ds with
  | [.lst xs] => some (enumD 0 xs)
  | [.tup xs] => some (enumD 0 xs)
  | _ => none
theorem enumD_len : ∀ (k : Nat) (ds : List D), (enumD k ds).length = ds.length
  | _, [] => rfl
  | k, d :: r => by
    unfold enumD
    rw [List.length_cons, enumD_len (k + 1) r, List.length_cons]
theorem enumD_get : ∀ {k : Nat} {ds : List D} {i : Nat} {e : D}, (enumD k ds)[i]? = some e → ∃ d, ds[i]? = some d ∧ e = .tup [.int ((k + i : Nat) : Int), d]
  | _, [], _, _, h => by simp [enumD] at h
  | k, d :: r, 0, e, h => by
    cases h
    exact ⟨d, rfl, rfl⟩
  | k, d :: r, i + 1, e, h => by
    obtain ⟨d', h1, h2⟩ := enumD_get (k := k + 1) (ds := r) (i := i) h
    refine ⟨d', h1, ?_⟩
    rw [h2]
    have : k + 1 + i = k + (i + 1) := by omega
    rw [this]
section
variable {S : Sx} {X : Cx} {Wx : WX}
theorem pe_revD (K : X.K = S.K) {e : Expr} {f : Env → M D} {k : Nat} {p1 p2 p3 pos : Pos} (he : PE X e (tD S Wx f)) : PE X (.Subscript e (.Slice none none (some (.UnaryOp .USub (.Constant (.int 1) k p1) p2)) p3) pos) (tD S Wx (bind1 revO f)) :=
  impE (pe_revA he) fun σ H Q ⟨env, W, g, st, q⟩ => ⟨env, W, g, st, q.bind.mono fun d g1 W1 H1 e1 z1 p1 q1 x rx => by
    obtain ⟨c, hc, q2⟩ := q1.of
    have kd : KD S W1 H1 g1 c Q := fun v W' H' e' z' p' r' => q2 W' H' e' z' p' v r'
    rw [K]
    cases d with
    | lst xs =>
      cases hc
      obtain ⟨a, vs, rfl, ha, ra⟩ := rx
      exact ⟨a, vs, rfl, .inl ⟨Rep.sqL z1 ha, fun p hp => kd.kf.new z1 p1 ⟨_, rfl, ra.reverse⟩ hp⟩⟩
    | tup xs =>
      cases hc
      obtain ⟨a, vs, rfl, ha, ra⟩ := rx
      exact ⟨a, vs, rfl, .inr ⟨Rep.sqT z1 ha, fun p hp => kd.tup z1 p1 ra.reverse hp⟩⟩
    | _ => cases hc⟩
theorem pe_lsetD (K : X.K = S.K) {e : Expr} {f : Env → M D} {p p2 q pos : Pos} (hg : Gl X "len") (hm : X.mg "len" = none) (hg2 : Gl X "set") (hm2 : X.mg "set" = none) (hc : X.calm = true) (he : PE X e (tD S Wx f)) (hp : plainX e = true) :
    PE X (.Call (.Name "len" p) [.Call (.Name "set" p2) [e] [] q] [] pos) (tD S Wx (bind1 lsetO f)) :=
  impE (pe_lenSetA hg hm hg2 hm2 he hc (starEach_plain hp)) fun σ H Q ⟨env, W, g, st, q⟩ => ⟨env, W, g, st, q.bind.mono fun d g1 W1 H1 e1 z1 p1 q1 x rx => by
    obtain ⟨c, hc, q2⟩ := q1.of
    cases d with
    | lst xs =>
      obtain ⟨ns, h1, h2⟩ := Option.bind_eq_some_iff.mp (show ((intsD xs).bind fun ns => if ns.length ≤ 4000 then some (D.int (distN ns : Nat)) else none) = some c from hc)
      split at h2
      · rename_i hl
        cases h2
        obtain ⟨a, vs, rfl, ha, ra⟩ := rx
        have e := ints_rep h1 ra
        subst e
        rw [K]
        exact ⟨a, ns, rfl, Rep.sqL z1 ha, hl, q2 _ _ .refl z1 p1 _ rfl⟩
      · cases h2
    | _ => cases hc⟩
theorem pe_ssetD (K : X.K = S.K) {e : Expr} {f : Env → M D} {p p2 q pos : Pos} (hg : Gl X "sorted") (hm : X.mg "sorted" = none) (hg2 : Gl X "set") (hm2 : X.mg "set" = none) (hc : X.calm = true) (he : PE X e (tD S Wx f)) (hp : plainX e = true) :
    PE X (.Call (.Name "sorted" p) [.Call (.Name "set" p2) [e] [] q] [] pos) (tD S Wx (bind1 ssetO f)) :=
  impE (pe_sortSet hg hm hg2 hm2 he hc (starEach_plain hp)) fun σ H Q ⟨env, W, g, st, q⟩ => ⟨env, W, g, st, q.bind.mono fun d g1 W1 H1 e1 z1 p1 q1 x rx => by
    obtain ⟨c, hc, q2⟩ := q1.of
    have kd : KD S W1 H1 g1 c Q := fun v W' H' e' z' p' r' => q2 W' H' e' z' p' v r'
    cases d with
    | lst xs =>
      obtain ⟨ns, h1, h2⟩ := Option.bind_eq_some_iff.mp (show ((intsD xs).bind fun ns => if ns.length < 64 then some (D.lst ((sortU ns).map .int)) else none) = some c from hc)
      split at h2
      · rename_i hl
        cases h2
        obtain ⟨a, vs, rfl, ha, ra⟩ := rx
        have e := ints_rep h1 ra
        subst e
        rw [K]
        refine ⟨a, ns, rfl, Rep.sqL z1 ha, hl, fun ms p hs hm hp => ?_⟩
        rw [sortU_uniq hs hm]
        exact kd.kf.new z1 p1 ⟨_, rfl, Reps.ints _⟩ hp
      · cases h2
    | _ => cases hc⟩
theorem rgV_rep {W : Gh} (a b : Int) : Reps S W (rngD a (b - a).toNat) (rgV a b) := by
  unfold rngD rgV
  generalize List.range (b - a).toNat = l
  induction l with
  | nil => trivial
  | cons i l ih => exact ⟨rfl, ih⟩
def tRgA (S : Sx) (Wx : WX) (fs : Env → M (List D)) : L2.St → Hp → (Int → Int → Hp → Prop) → Prop := fun σ H Q => ∃ env W g, StOk S W env σ H g ∧ Out S Wx σ W H (fs env g) fun ds _ W' H' => ∃ a b, (ds = [.int b] ∧ a = 0 ∨ ds = [.int a, .int b]) ∧ Q a b H'
theorem prg_A1 {p pos : Pos} {a : Expr} {f : Env → M D} (hg : Gl X "range") (hm : X.mg "range" = none) (ha : PE X a (tD S Wx f)) (hp : plainX a = true) : PRg X (.Call (.Name "range" p) [a] [] pos) (tRgA S Wx (consM f nilM)) := by
  intro pins s σ H Q I ⟨env, W, g, st, q⟩
  refine prg_1 hg hm ha (starEach_plain hp) pins s σ H Q I ⟨env, W, g, st, q.bind.mono fun d g1 W1 H1 e1 z1 p1 q1 x rx => ?_⟩
  obtain ⟨a, b, h, q2⟩ := (q1.bind.ret z1 p1).ret z1 p1
  rcases h with ⟨h, rfl⟩ | h
  · cases h
    exact ⟨b, rx, q2⟩
  · cases h
theorem prg_A2 {p pos : Pos} {a b : Expr} {f k : Env → M D} (hg : Gl X "range") (hm : X.mg "range" = none) (ha : PE X a (tD S Wx f)) (hb : PE X b (tD S Wx k)) (hp : plainX a = true) (hp2 : plainX b = true) : PRg X (.Call (.Name "range" p) [a, b] [] pos) (tRgA S Wx (consM f (consM k nilM))) := by
  intro pins s σ H Q I ⟨env, W, g, st, q⟩
  refine prg_2 hg hm ha hb (starEach_plain hp) (starEach_plain hp2) (by rw [starEach_plain hp2]; rfl) pins s σ H Q I ⟨env, W, g, st, q.bind.mono fun d g1 W1 H1 e1 z1 p1 q1 x rx => ⟨env, W1, g1, st.next e1 z1 p1, q1.bind.bind.mono fun d2 g2 W2 H2 e2 z2 p2 q2 y ry => ?_⟩⟩
  obtain ⟨i, j, h, q3⟩ := (((q2.bind.ret z2 p2).ret z2 p2)).ret z2 p2
  rcases h with ⟨h, _⟩ | h
  · cases h
  · cases h
    exact ⟨i, j, rx, ry, q3⟩
theorem pe_rgF {p pos : Pos} {e : Expr} {fs : Env → M (List D)} (hc : X.calm = true) (hg : Gl X "list") (hm : X.mg "list" = none) (he : PRg X e (tRgA S Wx fs)) (hp : plainX e = true) : PE X (.Call (.Name "list" p) [e] [] pos) (tF S Wx (thenM fs (rgO false))) :=
  impE (pe_listRg hc hg hm he (starEach_plain hp)) fun σ H Q ⟨env, W, g, st, q⟩ => ⟨env, W, g, st, q.bind.mono fun ds g1 W1 H1 e1 z1 p1 q1 => by
    obtain ⟨c, hc, q2⟩ := q1.of
    have kf : KF S W1 H1 g1 c Q := fun p o W' H' e' z' p' hp => q2 W' H' e' z' p' p o (fresh_back e1 hp)
    unfold rgO at hc
    split at hc
    · rename_i n
      split at hc
      · rename_i hr
        cases hc
        exact ⟨0, n, .inl ⟨rfl, rfl⟩, cb_iff.mp hr, fun l hl => kf.new z1 p1 ⟨_, rfl, rgV_rep 0 n⟩ hl⟩
      · cases hc
    · rename_i i j
      split at hc
      · rename_i hr
        cases hc
        exact ⟨i, j, .inr rfl, cb_iff.mp hr, fun l hl => kf.new z1 p1 ⟨_, rfl, rgV_rep i j⟩ hl⟩
      · cases hc
    · cases hc⟩
theorem pe_rgT {p pos : Pos} {e : Expr} {fs : Env → M (List D)} (hc : X.calm = true) (hg : Gl X "tuple") (hm : X.mg "tuple" = none) (he : PRg X e (tRgA S Wx fs)) (hp : plainX e = true) : PE X (.Call (.Name "tuple" p) [e] [] pos) (tD S Wx (thenM fs (rgO true))) :=
  impE (pe_tupRg hc hg hm he (starEach_plain hp)) fun σ H Q ⟨env, W, g, st, q⟩ => ⟨env, W, g, st, q.bind.mono fun ds g1 W1 H1 e1 z1 p1 q1 => by
    obtain ⟨c, hc, q2⟩ := q1.of
    have kd : KD S W1 H1 g1 c Q := fun v W' H' e' z' p' r' => q2 W' H' e' z' p' v r'
    unfold rgO at hc
    split at hc
    · rename_i n
      split at hc
      · rename_i hr
        cases hc
        exact ⟨0, n, .inl ⟨rfl, rfl⟩, cb_iff.mp hr, fun l hl => kd.tup z1 p1 (rgV_rep 0 n) hl⟩
      · cases hc
    · rename_i i j
      split at hc
      · rename_i hr
        cases hc
        exact ⟨i, j, .inr rfl, cb_iff.mp hr, fun l hl => kd.tup z1 p1 (rgV_rep i j) hl⟩
      · cases hc
    · cases hc⟩
def idmM (f k : Env → M D) : Env → M D := fun env => (f env).bind fun d => (M.of (asL d)).bind fun d => (k env).bind fun e => .of (idmO d e)
theorem pe_idmD (K : X.K = S.K) {x e : Expr} {f k : Env → M D} {ap cp : Pos} (hx : PE X x (tD S Wx f)) (he : PE X e (tD S Wx k)) (hb : plainB x = true) (hp : plainX e = true) (hl : (ap.endLine == cp.line) = true) :
    PE X (.Call (.Attribute x "index" ap) [e] [] cp) (tD S Wx (idmM f k)) := by
  refine impE (pe_bm PySem.F.plainAttrs_list PySem.F.slot_list_index PySem.F.type_list_index mt_index hx (pa_cons he pa_nil (starEach_plain hp)) (attr_plain hb) ?_ hl (starEach_plain hp) rfl) fun σ H Q ⟨env, W, g, st, q⟩ => ⟨env, W, g, st, q.bind.mono fun d0 g0 W0 H0 e0 z0 p0 q0 v rv => ?_⟩
  · rw [starEach_plain hp]
    rfl
  rw [K]
  obtain ⟨d, hd, q1⟩ := q0.bind.of
  obtain ⟨ds, rfl, rfl⟩ := asL_some hd
  have q1 := q1 _ _ .refl z0 p0
  obtain ⟨a, vs, rfl, ha, ra⟩ := rv
  refine ⟨.inl ⟨rfl, vs, Rep.sqL z0 ha⟩, env, W0, g0, st.next e0 z0 p0, q1.bind.mono fun e2 g2 W2 H2 e2' z2 p2 q2 u ru => ?_⟩
  obtain ⟨c, hc, q3⟩ := q2.of
  have hc : (if flatD e2 && ds.all flatD then (ds.findIdx? fun z => eqV (toV z) (toV e2)).map fun j => D.int (j : Nat) else none) = some c := hc
  split at hc
  · rename_i hf
    simp only [Bool.and_eq_true] at hf
    obtain ⟨j, hj, rfl⟩ := Option.map_eq_some_iff.mp hc
    have r2 := ra.mono e2'.le
    obtain ⟨ev1, fv1⟩ := flat_rep hf.1 ru
    obtain ⟨ev2, fv2⟩ := flats_rep hf.2 r2
    obtain ⟨hlt, h1, h2⟩ := List.findIdx?_eq_some_iff_getElem.mp hj
    subst ev2
    refine ⟨a, _, u, j, toV ds[j], rfl, rfl, Rep.sqL z2 (e2'.le.z _ _ ha), fv1, fv2, ?_, ?_, fun m z' hm hz => ?_, q3 _ _ .refl z2 p2 _ rfl⟩
    · rw [List.getElem?_map, List.getElem?_eq_getElem hlt]; rfl
    · rw [ev1]; exact h1
    · have hml : m < ds.length := by omega
      rw [List.getElem?_map, List.getElem?_eq_getElem hml] at hz
      cases hz
      have := h2 m hm
      rw [ev1]
      simpa using this
  · cases hc
/-! enumerate -/
theorem ite_ok {W : Gh} {a : Addr} {vs : List V} {ds : List D} (ha : W.Z a = some (.lst vs)) (r : Reps S W ds vs) : ItOk S W (enumD 0 ds) (Ite S.K a) where
  go := fun i H z h => by
    rw [enumD_len] at h
    have h1 : i < vs.length := by rw [← r.length]; exact h
    exact ⟨vs, vs[i], Rep.sqL z ha, by simp⟩
  stop := fun i H z h => by
    rw [enumD_len] at h
    exact ⟨vs, Rep.sqL z ha, by rw [← r.length]; exact h⟩
  yld := fun i H x H' d z y e W1 g l z1 p => by
    obtain ⟨T, x1, rfl, hT, rfl, f1⟩ := y
    obtain ⟨d1, h1, rfl⟩ := enumD_get e
    obtain ⟨v1, k1, r1⟩ := r.get h1
    have e1 := f1 vs (Rep.sqL z ha)
    rw [k1] at e1; cases e1
    exact new_tup z1 p hT ⟨by rw [Nat.zero_add]; rfl, r1.mono l, trivial⟩
theorem iteT_ok {W : Gh} {a : Addr} {vs : List V} {ds : List D} (ha : W.Z a = some (.tup vs)) (r : Reps S W ds vs) : ItOk S W (enumD 0 ds) (IteT S.K a) where
  go := fun i H z h => by
    rw [enumD_len] at h
    have h1 : i < vs.length := by rw [← r.length]; exact h
    exact ⟨vs, vs[i], Rep.sqT z ha, by simp⟩
  stop := fun i H z h => by
    rw [enumD_len] at h
    exact ⟨vs, Rep.sqT z ha, by rw [← r.length]; exact h⟩
  yld := fun i H x H' d z y e W1 g l z1 p => by
    obtain ⟨T, x1, rfl, hT, rfl, f1⟩ := y
    obtain ⟨d1, h1, rfl⟩ := enumD_get e
    obtain ⟨v1, k1, r1⟩ := r.get h1
    have e1 := f1 vs (Rep.sqT z ha)
    rw [k1] at e1; cases e1
    exact new_tup z1 p hT ⟨by rw [Nat.zero_add]; rfl, r1.mono l, trivial⟩
theorem pi_enumD (K : X.K = S.K) {a : Expr} {fs : Env → M (List D)} {p pos tpos : Pos} {elts : List Expr} {kk : Nat} (hg : Gl X "enumerate") (hm : X.mg "enumerate" = none) (ha : PA X [a] (tA S Wx fs)) (hp : plainX a = true) :
    PI X (.Tuple elts kk tpos) (.Call (.Name "enumerate" p) [a] [] pos) (tI S Wx (thenL fs enumO)) :=
  impI (pi_enumA hg hm ha (starEach_plain hp)) fun σ H R ⟨env, W, g, st, q⟩ => ⟨env, W, g, st, q.bind.mono fun ds g1 W1 H1 e1 z1 p1 q1 vs rs => by
    obtain ⟨xs, hx, q2⟩ := q1.of
    rw [K]
    unfold enumO at hx
    split at hx
    · cases hx
      cases vs with
      | nil => exact rs.elim
      | cons v vs =>
        cases vs with
        | nil =>
          obtain ⟨a, us, rfl, h1, r1⟩ := rs.1
          exact ⟨a, us, rfl, .inl ⟨Rep.sqL z1 h1, q2 _ _ .refl z1 p1 _ (ite_ok h1 r1)⟩⟩
        | cons _ _ => exact rs.2.elim
    · cases hx
      cases vs with
      | nil => exact rs.elim
      | cons v vs =>
        cases vs with
        | nil =>
          obtain ⟨a, us, rfl, h1, r1⟩ := rs.1
          exact ⟨a, us, rfl, .inr ⟨Rep.sqT z1 h1, q2 _ _ .refl z1 p1 _ (iteT_ok h1 r1)⟩⟩
        | cons _ _ => exact rs.2.elim
    · cases hx⟩
end
end Dv
end
section
set_option maxHeartbeats 400000
/-! DvG: targets, comprehensions. -/
namespace Dv
open PySem PySem.Spec PyProof.Rows L2

def locB (sc : Scope) (fn : Str → Bool) (x : Str) : Bool := match sc.names.lookup x with
  | some .local => true
  | some .cell => fn x
  | _ => false
def chkNm (N : List Str) (sc : Scope) (fn : Str → Bool) (i : Nat) (e : Expr) : Bool := match e with
  | .Name x _ => decide (N[i]? = some x) && locB sc fn x
  | _ => false
def chkNms (N : List Str) (sc : Scope) (fn : Str → Bool) : List Nat → List Expr → Bool
  | [], [] => true
  | i :: is, e :: es => chkNm N sc fn i e && chkNms N sc fn is es
  | _, _ => false
def chkT (N : List Str) (sc : Scope) (fn : Str → Bool) (t : Tg) (e : Expr) : Bool := match t with
  | .one i => chkNm N sc fn i e
  | .many is => match e with
    | .Tuple es _ _ => chkNms N sc fn is es
    | _ => false
section
variable {S : Sx} {X : Cx} {Wx : WX} {N : List Str} {sc : Scope} {fn : Str → Bool}
theorem chkNm_ok (hsc : X.env.scope = sc) (hfn : ∀ x, fn x = true → X.fn x = true) {i : Nat} {e : Expr} (h : chkNm N sc fn i e = true) :
    ∃ x p, e = .Name x p ∧ N[i]? = some x ∧ L2.Loc X.env.scope x ∧ (X.fn x = true ∨ X.env.scope.names.lookup x = some .local) := by
  unfold chkNm at h
  split at h
  · rename_i x p
    simp only [Bool.and_eq_true, decide_eq_true_eq] at h
    obtain ⟨h1, h2⟩ := h
    unfold locB at h2
    rw [hsc]
    split at h2
    · rename_i q
      exact ⟨x, p, rfl, h1, .inl q, .inr q⟩
    · rename_i q
      exact ⟨x, p, rfl, h1, .inr q, .inl (hfn x h2)⟩
    · cases h2
  · cases h
theorem chkNms_ok (hsc : X.env.scope = sc) (hfn : ∀ x, fn x = true → X.fn x = true) : ∀ {is : List Nat} {es : List Expr}, chkNms N sc fn is es = true → es.length = is.length ∧
    ∀ (k : Nat) (e : Expr), es[k]? = some e → ∃ x p i, e = .Name x p ∧ is[k]? = some i ∧ N[i]? = some x ∧ L2.Loc X.env.scope x ∧ (X.fn x = true ∨ X.env.scope.names.lookup x = some .local)
  | [], [], _ => ⟨rfl, fun k e q => by simp at q⟩
  | i :: is, e :: es, h => by
    have h : (chkNm N sc fn i e && chkNms N sc fn is es) = true := h
    simp only [Bool.and_eq_true] at h
    obtain ⟨h1, h2⟩ := chkNms_ok hsc hfn h.2
    refine ⟨by simp [h1], fun k e' q => ?_⟩
    cases k with
    | zero =>
      cases q
      obtain ⟨x, p, h3, h4⟩ := chkNm_ok hsc hfn h.1
      exact ⟨x, p, i, h3, rfl, h4⟩
    | succ k => exact h2 k e' q
  | [], _ :: _, h => by cases h
  | _ :: _, [], h => by cases h
/-- the target's reading, for a deep value -/
theorem pg_tg (hN : X.N = N) (nd : N.Nodup) (hc : X.calm = true) (hsc : X.env.scope = sc) (hfn : ∀ x, fn x = true → X.fn x = true) {t : Tg} {e : Expr} (h : chkT N sc fn t e = true) : PG X e (gTg X.K t) := by
  cases t with
  | one i =>
    obtain ⟨x, p, rfl, h1, h2, h3⟩ := chkNm_ok hsc hfn (show chkNm N sc fn i e = true from h)
    exact pg_name (by rw [hN]; exact nd) (by rw [hN]; exact h1) h2 h3
  | many is =>
    unfold chkT at h
    simp only at h
    split at h
    · rename_i es k p
      obtain ⟨h1, h2⟩ := chkNms_ok hsc hfn h
      obtain ⟨h3, h4⟩ := assignEach_names (env := X.env) (es := es) fun e he => by
        obtain ⟨k, hk⟩ := List.getElem?_of_mem he
        obtain ⟨x, p, i, q, _⟩ := h2 k e hk
        exact ⟨x, p, q⟩
      refine impG (pg_tup (n := es.length) hc (pgs_names hN nd h2 h1) h3 h4) fun v σ H Q ⟨a, vs, e1, e2, e3, q⟩ => ⟨a, vs, e1, e2, by rw [h1]; exact e3, e3, q⟩
    · cases h
/-- the slots that a target sets -/
def Tg.slots : Tg → List Nat
  | .one i => [i]
  | .many is => is
theorem gTg_of {W : Gh} {H : Hp} {env env' : Env} {σ : L2.St} {t : Tg} {d : D} {v : V} {Q : L2.St → Hp → Prop} (z : ZIn W H) (h : setTg t d env = some env') (ok : SlotsOk S W env σ) (l : env.length = σ.length) (r : Rep S W d v)
    (k : ∀ σ', SlotsOk S W env' σ' → env'.length = σ'.length → σ'.length = σ.length → (∀ j, j ∉ t.slots → σ'[j]? = σ[j]?) → Q σ' H) : gTg S.K t v σ H Q := by
  cases t with
  | one i =>
    cases h
    exact k _ (slots_set ok l r) (by simpa using l) (by simp) fun j hj => List.getElem?_set_ne fun e => hj (by rw [e]; exact List.mem_singleton.mpr rfl)
  | many is =>
    unfold setTg at h
    simp only at h
    split at h
    · rename_i ds
      split at h
      · rename_i hl
        cases h
        obtain ⟨a, vs, rfl, ha, ra⟩ := r
        refine ⟨a, vs, rfl, Rep.sqT z ha, by rw [← ra.length, hl], ?_⟩
        obtain ⟨h1, h2⟩ := slots_all (is := is) ok l ra
        refine k _ h1 h2 (gAll_length is vs σ) fun j hj => ?_
        have : ∀ (is : List Nat) (vs : List V) (σ : L2.St), j ∉ is → (gAll is vs σ)[j]? = σ[j]? := by
          intro is
          induction is with
          | nil => intro vs σ _; unfold gAll; rfl
          | cons i is ih =>
            intro vs σ hm
            cases vs with
            | nil => unfold gAll; rfl
            | cons v vs =>
              show (gAll is vs (σ.set i (some v)))[j]? = _
              rw [ih _ _ (fun q => hm (List.mem_cons_of_mem _ q)), List.getElem?_set_ne fun q => hm (by rw [q]; exact List.mem_cons_self)]
        exact this is vs σ hj
      · cases h
    · cases h

/-! ### comprehensions -/
def wipeE (env : Env) : List Nat → Env
  | [] => env
  | v :: vs => (wipeE env vs).set v none
theorem wipeE_length (env : Env) : ∀ vs : List Nat, (wipeE env vs).length = env.length
  | [] => rfl
  | v :: vs => by unfold wipeE; rw [List.length_set, wipeE_length env vs]
theorem wipe_slots {W : Gh} {env : Env} {σ : L2.St} (h : SlotsOk S W env σ) (l : env.length = σ.length) : ∀ vs : List Nat, SlotsOk S W (wipeE env vs) (wipe σ vs)
  | [] => h
  | v :: vs => by
    intro i d b e
    unfold wipeE at e
    unfold wipe
    by_cases hi : v = i
    · subst hi
      by_cases hv : v < (wipeE env vs).length
      · rw [List.getElem?_set_self hv] at e; cases e
      · rw [List.getElem?_eq_none (by simpa using hv)] at e; cases e
    · rw [List.getElem?_set_ne hi] at e ⊢
      exact wipe_slots h l vs i d b e
/-- no error leaves -/
def M.safe {α : Type} (m : M α) : M α := fun g => match m g with
  | .err _ _ => .stuck
  | r => r
def compStep (own : List Nat) (t : Tg) (env : Env) (ft : Env → M Bool) (fe : Env → M D) (d : D) : M (Option D) := match setTg t d (wipeE env own) with
  | none => .fail
  | some env' => (ft env').bind fun b => if b = true then (fe env').bind fun x => .ret (some x) else .ret none
def compGo (step : D → M (Option D)) : List D → M (List D)
  | [] => .ret []
  | d :: r => (step d).safe.bind fun o => (compGo step r).bind fun xs => .ret (match o with | some x => x :: xs | none => xs)
def compM (own : List Nat) (t : Tg) (fi : Env → M (List D)) (ft : Env → M Bool) (fe : Env → M D) : Env → M D := fun env => (fi env).bind fun ds => if ds.length ≤ sizeLine then (compGo (compStep own t env ft fe) ds).bind fun xs => .ret (.lst xs) else .fail
abbrev noW : WX := fun _ _ _ _ => False
theorem safe_ok {α : Type} {m : M α} {g g' : G} {a : α} (h : m.safe g = .ok a g') : m g = .ok a g' := by
  unfold M.safe at h
  split at h
  · cases h
  · exact h
theorem bind_ok {α β : Type} {m : M α} {f : α → M β} {g g' : G} {b : β} (h : m.bind f g = .ok b g') : ∃ a g1, m g = .ok a g1 ∧ f a g1 = .ok b g' := by
  unfold M.bind at h
  split at h
  · rename_i a g1 e
    exact ⟨a, g1, e, h⟩
  · cases h
  · cases h
theorem bind_err {α β : Type} {m : M α} {f : α → M β} {g g' : G} {x : Ex} (h : m.bind f g = .err x g') : m g = .err x g' ∨ ∃ a g1, m g = .ok a g1 ∧ f a g1 = .err x g' := by
  unfold M.bind at h
  split at h
  · rename_i a g1 e
    exact .inr ⟨a, g1, e, h⟩
  · rename_i y g1 e
    cases h
    exact .inl e
  · cases h
theorem safe_err {α : Type} {m : M α} {g g' : G} {x : Ex} (h : m.safe g = .err x g') : False := by
  unfold M.safe at h
  split at h
  · cases h
  · rename_i hne
    exact hne _ _ h
theorem wipe_wipe {σ σ2 : L2.St} {vs : List Nat} {t : Tg} (hs : ∀ j ∈ t.slots, j ∈ vs) (l : σ2.length = (wipe σ vs).length) (h : ∀ j, j ∉ t.slots → σ2[j]? = (wipe σ vs)[j]?) : wipe σ2 vs = wipe σ vs := by
  refine List.ext_getElem? fun j => ?_
  by_cases hj : j ∈ vs
  · have : ∀ (σ : L2.St) (vs : List Nat), j ∈ vs → j < σ.length → (wipe σ vs)[j]? = some none := by
      intro σ vs
      induction vs with
      | nil => intro hm _; cases hm
      | cons v vs ih =>
        intro hm hlt
        unfold wipe
        by_cases e : v = j
        · subst e
          rw [List.getElem?_set_self (by rw [wipe_length]; exact hlt)]
        · rw [List.getElem?_set_ne e]
          rcases List.mem_cons.mp hm with q | q
          · exact absurd q.symm e
          · exact ih q hlt
    rw [wipe_length] at l
    by_cases hlt : j < σ.length
    · rw [this σ2 vs hj (by rw [l]; exact hlt), this σ vs hj hlt]
    · rw [List.getElem?_eq_none (by rw [wipe_length, l]; omega), List.getElem?_eq_none (by rw [wipe_length]; omega)]
  · rw [wipe_out hj, h j fun q => hj (hs j q), wipe_out hj]
/-- a tracked list grown -/
theorem Ext.grow {W0 W : Gh} {H0 H : Hp} {p : Addr} {o : HO} (e : Ext [] W0 H0 W H) (hp : H0 p = none) (hh : H p ≠ none) : Ext [] W0 H0 W (upd H p o) where
  le := e.le
  keep := fun a u h np nx => by rw [upd_ne (ne_of_none h hp)]; exact e.keep a u h np nx
  there := fun a h => by
    by_cases q : a = p
    · subst q; rw [upd_same]; simp
    · rw [upd_ne q]; exact e.there a h
  new := e.new
  newp := e.newp
theorem ZIn.grow {W : Gh} {H : Hp} {p : Addr} {o : HO} (z : ZIn W H) (hz : W.Z p = none) : ZIn W (upd H p o) := fun a u e => by
  rw [upd_ne (ne_of_none e hz)]; exact z a u e
theorem PoolIn.grow {W : Gh} {H : Hp} {g : G} {p : Addr} {o : HO} (h : PoolIn W H g) (np : ¬ inPool W p) : PoolIn W (upd H p o) g := by
  cases g with
  | none => exact h
  | some q =>
    obtain ⟨a, l, e, ne, z1, z2, h1, h2⟩ := h
    exact ⟨a, l, e, ne, z1, z2, by rw [upd_ne fun q => np ⟨a, l, e, .inl q.symm⟩]; exact h1, by rw [upd_ne fun q => np ⟨a, l, e, .inr q.symm⟩]; exact h2⟩
/-- an own object (not frozen, not the pool) through a growth -/
theorem own_stays {W W' : Gh} {H H' : Hp} {p : Addr} {o : HO} (e : Ext [] W H W' H') (hz : W.Z p = none) (np : ¬ inPool W p) (ho : H p = some o) : W'.Z p = none ∧ ¬ inPool W' p ∧ H' p = some o := by
  refine ⟨?_, fun q => ?_, e.keep p o ho np (by simp)⟩
  · cases q : W'.Z p with
    | none => rfl
    | some u =>
      rcases e.new p u q with z | z
      · rw [hz] at z; cases z
      · rw [ho] at z; cases z
  · rcases e.newp p q with z | z
    · exact np z
    · rw [ho] at z; cases z
/-- a comprehension of one clause: its reading -/
theorem comp_rd {own : List (Str × Nat)} {t : Tg} {fi : Env → M (List D)} {ft : Env → M Bool} {fe : Env → M D} (K : X.K = S.K) (hs : ∀ j ∈ t.slots, j ∈ own.map (·.2)) :
    ∀ σ H Q, tF S Wx (compM (own.map (·.2)) t fi ft fe) σ H Q → tLc (tI S Wx fi) (gTg X.K t) (tB S noW ft) (tD S noW fe) (own.map (·.2)) σ H Q := by
  refine fun σ H Q ⟨env, W, g, st, q⟩ => ⟨env, W, g, st, q.bind.mono fun ds g1 W1 H1 e1 z1 p1 q1 J hJ Dl hD => ?_⟩
  by_cases hl : ds.length ≤ sizeLine
  · rw [if_pos hl] at q1
    -- how it comes out
    have out : ∃ xs gE, compGo (compStep (own.map (·.2)) t env ft fe) ds g1 = .ok xs gE ∧ ∀ W' H', Ext [] W1 H1 W' H' → ZIn W' H' → PoolIn W' H' gE → ∀ p o, H p = none → W'.Z p = none → ¬ inPool W' p → H' p = some o → RepO S W' (.lst xs) o → Q (.ref p) H' := by
      have noerr : ∀ (l : List D) (g : G) (x : Ex) (g' : G), compGo (compStep (own.map (·.2)) t env ft fe) l g ≠ .err x g' := by
        intro l
        induction l with
        | nil => intro g x g' h; cases h
        | cons d r ih =>
          intro g x g' h
          unfold compGo at h
          rcases bind_err h with h | ⟨o, g2, _, h⟩
          · exact safe_err h
          · rcases bind_err h with h | ⟨ys, g3, _, h⟩
            · exact ih _ _ _ h
            · cases h
      unfold M.bind at q1
      cases e : compGo (compStep (own.map (·.2)) t env ft fe) ds g1 with
      | stuck => rw [e] at q1; exact q1.elim
      | err x g2 => exact absurd e (noerr _ _ _ _)
      | ok xs gE =>
        rw [e] at q1
        exact ⟨xs, gE, rfl, q1⟩
    obtain ⟨xs, gE, hrun, fin⟩ := out
    have hDH : H Dl = none := fresh_back e1 hD
    -- the invariant at turn i
    let P : Nat → Hp → Prop := fun i H2 => ∃ (acc rest : List D) (av : List V) (W2 : Gh) (g2 : G), compGo (compStep (own.map (·.2)) t env ft fe) (ds.drop i) g2 = .ok rest gE ∧ xs = acc ++ rest ∧ acc.length ≤ i ∧
      Ext [] W1 H1 W2 H2 ∧ ZIn W2 H2 ∧ PoolIn W2 H2 g2 ∧ W2.Z Dl = none ∧ ¬ inPool W2 Dl ∧ H2 Dl = some (.lst av) ∧ Reps S W2 acc av
    refine ⟨fun i m H2 => m = ds.length - i ∧ i ≤ ds.length ∧ P i H2, ⟨ds.length, by simp, Nat.zero_le _, [], xs, [], W1, g1, hrun, rfl, Nat.le_refl _, Ext.fresh hD, z1.fresh hD, p1.fresh hD, noZ z1 hD, nopool p1 hD, upd_same, trivial⟩, ?_⟩
    rintro i m H2 ⟨rfl, hi', acc, rest, av, W2, g2, hgo, hx, hacc, ext, z2, p2, nz, np, hDl, racc⟩
    have hJ2 := hJ.mono ext.le
    by_cases hlt : i < ds.length
    · refine .inr ⟨hJ2.go i H2 z2 hlt, P (i + 1), fun H' p' => ⟨ds.length - (i + 1), by omega, rfl, hlt, p'⟩, fun x H3 hy => ?_⟩
      have hdi : ds[i]? = some ds[i] := List.getElem?_eq_getElem hlt
      obtain ⟨W3, e3, z3, p3, r3⟩ := hJ2.yld i H2 x H3 _ z2 hy hdi W2 g2 .refl z2 p2
      obtain ⟨nz3, np3, hD3⟩ := own_stays e3 nz np hDl
      rw [List.drop_eq_getElem_cons hlt] at hgo
      unfold compGo at hgo
      obtain ⟨o, g4, hst, hgo⟩ := bind_ok hgo
      obtain ⟨rest', g5, hgo', hret⟩ := bind_ok hgo
      have hst := safe_ok hst
      unfold compStep at hst
      cases hset : setTg t ds[i] (wipeE env (own.map (·.2))) with
      | none => rw [hset] at hst; cases hst
      | some env' =>
        rw [hset] at hst
        have hst : ((ft env').bind fun b => if b = true then (fe env').bind fun x => .ret (some x) else .ret none) g2 = .ok o g4 := hst
        obtain ⟨b, g6, hb, hst⟩ := bind_ok hst
        have sl : SlotsOk S W3 env σ := st.slots.mono (e1.le.trans (ext.le.trans e3.le))
        rw [K]
        refine gTg_of z3 hset (wipe_slots sl st.len _) (by rw [wipeE_length, wipe_length]; exact st.len) r3 fun σ2 ok2 len2 lenσ out2 => ⟨wipe_wipe hs lenσ out2, ?_⟩
        refine ⟨env', W3, g2, ⟨z3, p3, ok2, len2⟩, ?_⟩
        rw [hb]
        intro W4 H4 e4 z4 p4
        have ext4 := (ext.trans e3).trans e4
        obtain ⟨nz4, np4, hD4⟩ := own_stays e4 nz3 np3 hD3
        cases b with
        | false =>
          have hst : M.ret (none : Option D) g6 = .ok o g4 := hst
          cases hst
          cases hret
          exact ⟨acc, rest', av, W4, g4, hgo', hx, by omega, ext4, z4, p4, nz4, np4, hD4, racc.mono (e3.le.trans e4.le)⟩
        | true =>
          have hst : ((fe env').bind fun x => .ret (some x)) g6 = .ok o g4 := hst
          obtain ⟨y, g7, hy7, hst⟩ := bind_ok hst
          cases hst
          cases hret
          refine ⟨env', W4, g6, ⟨z4, p4, ok2.mono e4.le, len2⟩, ?_⟩
          rw [hy7]
          intro W5 H5 e5 z5 p5 yv ry
          obtain ⟨nz5, np5, hD5⟩ := own_stays e5 nz4 np4 hD4
          refine ⟨av, hD5, ?_, acc ++ [y], rest', av ++ [yv], W5, g4, hgo', by rw [hx, List.append_assoc]; rfl, by simp; omega, (ext4.trans e5).grow hD (by rw [hD5]; simp), z5.grow nz5, p5.grow np5, nz5, np5, upd_same,
            (racc.mono (e3.le.trans (e4.le.trans e5.le))).append (Reps.one ry)⟩
          rw [← racc.length]
          omega
    · have hie : i = ds.length := by omega
      subst hie
      rw [List.drop_length] at hgo
      cases hgo
      rw [List.append_nil] at hx
      subst hx
      exact .inl ⟨hJ2.stop _ H2 z2 (Nat.le_refl _), fin W2 H2 ext z2 p2 Dl _ hDH nz np hDl ⟨av, rfl, racc⟩⟩
  · rw [if_neg hl] at q1
    exact q1.elim
/-- a comprehension of one clause -/
theorem pe_compF {elt tg iter : Expr} {ifs : List Expr} {scope : Scope} {own : List (Str × Nat)} {pos : Pos} {t : Tg} {fi : Env → M (List D)} {ft : Env → M Bool} {fe : Env → M D} (K : X.K = S.K) (hc : X.calm = true) (hN : X.N.Nodup)
    (hi : PI X tg iter (tI S Wx fi)) (ok : BlkOk X.N X.env.scope scope own) (hs : ∀ j ∈ t.slots, j ∈ own.map (·.2))
    (hg : ∀ (s : Shared) (H : Hp) (C : Addr) (cl : List (Str × Addr)) (fp : List Addr), PG (X.blk s H scope (compEnvC scope cl C X.env) fp) tg (gTg X.K t))
    (ht : ∀ (s : Shared) (H : Hp) (C : Addr) (cl : List (Str × Addr)) (fp : List Addr), PTs (X.blk s H scope (compEnvC scope cl C X.env) fp) ifs (tB S noW ft))
    (he : ∀ (s : Shared) (H : Hp) (C : Addr) (cl : List (Str × Addr)) (fp : List Addr), PE (X.blk s H scope (compEnvC scope cl C X.env) fp) elt (tD S noW fe)) (hf : ∀ x, foldedSetIterable iter X.env x = pure x) :
    PE X (.ListComp elt [⟨tg, iter, ifs, 0⟩] scope pos) (tF S Wx (compM (own.map (·.2)) t fi ft fe)) := by
  exact impE (pe_lc hc hN hi ok hg ht he hf) (comp_rd K hs)
end
end Dv
end
section
set_option maxHeartbeats 400000
/-! DvGa: classes that are made. -/
namespace Dv
open PySem PySem.Spec PyProof.Rows L2
/-- a method that changes its object: s is told the object, the rest; it tells the result and the object -/
inductive RM where
  | ok (d o : D) (g : G) | err (e : Ex) (o : D) (g : G) | stuck
/-- its promise -/
def spX (S : Sx) (n : Nat) (s : D → List D → G → RM) : Sp := fun vs H Q E => vs.length = n + 1 ∧ ∃ (x : Addr) (us : List V) (W : Gh) (g : G) (d : D) (o : HO) (ds : List D), vs = .ref x :: us ∧ ZIn W H ∧ PoolIn W H g ∧ W.Z x = none ∧ ¬ inPool W x ∧ H x = some o ∧ RepO S W d o ∧ Reps S W ds us ∧
  match s d ds g with
  | .ok r d' g' => ∀ W' H' v, Ext [x] W H W' H' → ZIn W' H' → PoolIn W' H' g' → W'.Z x = none → ¬ inPool W' x → (∃ o', H' x = some o' ∧ RepO S W' d' o') → Rep S W' r v → Q v H'
  | .err e d' g' => ∀ W' H' c dx, Ext [x] W H W' H' → ZIn W' H' → PoolIn W' H' g' → W'.Z x = none → ¬ inPool W' x → (∃ o', H' x = some o' ∧ RepO S W' d' o') → ExRep S W' H' e c dx → E c dx H'
  | .stuck => False
section
variable {P : Program} {w : World} {mg : Str → Option Value} {base : Heap} {S : Sx} {lev : Nat}
/-- a class that is known by its name: C(..) -/
structure KnownC (P : Program) (w : World) (S : Sx) (mg : Str → Option Value) (base : Heap) (k : Nat) (x : Str) (c n : Nat) (s : D → List D → G → RM) : Prop where
  ex : ∃ f fd ps, FnOk P w S.K mg base (L2.CX P w) k f fd ps (spX S n s) ∧ mg x = some (.ref (S.cls c)) ∧ Mk S.K (S.cls c) f ∧ Binds S.K fd ps []
def noneD : D → Bool
  | .non => true
  | _ => false
theorem noneD_ok {d : D} (h : noneD d = true) : d = .non := by
  cases d <;> first
    | rfl
    | cases h
theorem Ext.dropX {W W1 W2 : Gh} {H H1 H2 : Hp} {x : Addr} (a : Ext [] W H W1 H1) (b : Ext [x] W1 H1 W2 H2) (hx : H x = none) : Ext [] W H W2 H2 :=
  let e := (a.weak (ex' := [x])).trans b
  ⟨e.le, fun p o h np _ => e.keep p o h np (fun q => by
    rw [List.mem_singleton.mp q, hx] at h
    cases h), e.there, e.new, e.newp⟩
/-- what C(..) makes -/
def makeM (c n : Nat) (s : D → List D → G → RM) (fs : Env → M (List D)) : Env → M D := fun env => (fs env).bind fun ds => if ds.length = n then (fun g => match s (.obj c []) ds g with
  | .ok r o g' => if noneD r = true then .ok o g' else .stuck
  | .err e _ g' => .err e g'
  | .stuck => .stuck) else .fail
theorem run_mk {CX : CXT} {X : Cx} {k : Nat} {C f : Addr} {fd : FuncData} {ps : List Str} {sp : Sp} {E : XK} {pins : List (Addr × Obj)} {σ : L2.St} {H : Hp} {s : Shared} {Q : VK} {us : List Value} {vs : List V} (M : Mk X.K C f) (F : FnOk X.prog X.w X.K X.mg X.base CX k f fd ps sp) (hr : Room (k + 1) X.A)
    (hb : Binds X.K fd ps []) (hx : PassesAt CX X σ E) (I : Inv X pins σ H s) (r : Vals vs us)
    (h : ∀ x dx, H x = none → H dx = none → dx ≠ x → sp (V.ref x :: vs) (upd (upd H dx (.own x)) x (.ins C dx [])) (fun v H2 => v = .non ∧ Q (V.ref x) H2) E) :
    wpAny (model X.prog X.w) X.A (call (.ref C) us) (EP X pins σ Q) X.xe s := by
  have J := Inv.made (C := C) I
  have h2 := h (s.heap.objs.size + 1) s.heap.objs.size (I.hok.fresh (Nat.le_succ _)) (I.hok.fresh (Nat.le_refl _)) (Nat.ne_of_lt (Nat.lt_succ_self _))
  have rr : Vals (V.ref (s.heap.objs.size + 1) :: vs) (Value.ref (s.heap.objs.size + 1) :: us) := .cons rfl r
  have hl : (Value.ref (s.heap.objs.size + 1) :: us ++ []).length = ps.length := by
    rw [List.append_nil, ← rr.length, F.len _ _ _ _ h2]
  have hbb := hb _ (Value.ref (s.heap.objs.size + 1) :: us) J.kIn hl
  rw [List.append_nil] at hbb
  refine wpAny_call (make_map (f := f) I.kIn M.makes M.init (beq_iff_eq.mp M.fn) ?_)
  refine codeAny_mono (F.run _ X.stack _ _ ⟨Value.ref (s.heap.objs.size + 1) :: us, []⟩ _ _ _ E (hr.make C us []) (J.env0.make C us []) hbb rr h2) fun o t ht => ?_
  cases o with
  | error e => exact hx pins _ _ e t J ht
  | ok fl =>
    cases fl with
    | ret u =>
      obtain ⟨v, H', J3, rv, ev, q3⟩ := J.after ht
      subst ev
      exact ⟨rv, V.ref (s.heap.objs.size + 1), H', J3, rfl, q3⟩
    | _ => exact False.elim ht
theorem pe_makeD {X : Cx} {Wx : WX} {k c n : Nat} {x : Str} {s : D → List D → G → RM} {p pos : Pos} {e : Expr} {es : List Expr} {fs : Env → M (List D)} (K : X.K = S.K) (kn : KnownC X.prog X.w S X.mg X.base k x c n s) (hr : Room (k + 1) X.A) (hg : Gl X x) (tk : L2.Takes X Wx)
    (ha : PA X (e :: es) (tA S Wx fs)) (hdb : (x == ("__debug__" : Str)) = false) (hp : (e :: es).all plainX = true) : PE X (.Call (.Name x p) (e :: es) [] pos) (tF S Wx (makeM c n s fs)) := by
  obtain ⟨f, fd, ps, F, hm, hk, hb⟩ := kn.ex
  simp only [List.all_cons, Bool.and_eq_true] at hp
  rw [← K] at F hk hb
  refine ⟨fun pins s0 σ H Q I ⟨env, W, g, st, q⟩ => ?_⟩
  refine wpAny_Call_Name_kw (ld_glob I hg hm ?_ hdb)
  have key : tA S Wx fs σ H fun vs H1 => ∀ x dx, H1 x = none → H1 dx = none → dx ≠ x → spX S n s (V.ref x :: vs) (upd (upd H1 dx (.own x)) x (.ins (S.cls c) dx [])) (fun v H2 => v = .non ∧ Q (V.ref x) H2) (WE Wx σ) := by
    refine ⟨env, W, g, st, q.bind.mono fun ds g1 W1 H1 e1 z1 p1 q1 vs rs y dx hy hdx ne => ?_⟩
    by_cases hn : ds.length = n
    · rw [if_pos hn] at q1
      have f1 : Ext [] W1 H1 W1 (upd H1 dx (.own y)) := Ext.fresh hdx
      have hy2 : upd H1 dx (.own y) y = none := by rw [upd_ne ne.symm]; exact hy
      have f2 : Ext [] W1 H1 W1 (upd (upd H1 dx (.own y)) y (.ins (S.cls c) dx [])) := f1.trans (Ext.fresh hy2)
      have zz := (z1.fresh (o := .own y) hdx).fresh (o := .ins (S.cls c) dx []) hy2
      have pp := (p1.fresh (o := .own y) hdx).fresh (o := .ins (S.cls c) dx []) hy2
      refine ⟨by simp [← rs.length, hn], y, vs, W1, g1, .obj c [], _, ds, rfl, zz, pp, noZ z1 hy, nopool p1 hy, upd_same, ⟨dx, [], rfl, trivial⟩, rs, ?_⟩
      revert q1
      cases s (.obj c []) ds g1 with
      | stuck => exact fun q => q
      | err e o g' => exact fun q1 W' H' cl d' e' z' p' _ _ _ r' => q1 W' H' cl d' (f2.dropX e' hy) z' p' r'
      | ok r o g' =>
        intro q1 W' H' v e' z' p' a1 a2 a3 r'
        replace q1 : Out S Wx σ W1 H1 (if noneD r = true then R.ok o g' else R.stuck) fun d _ W' H' => ∀ (p : Addr) (o : HO), H p = none → W'.Z p = none → ¬inPool W' p → H' p = some o → RepO S W' d o → Q (V.ref p) H' := q1
        by_cases hr' : noneD r = true
        · rw [if_pos hr'] at q1
          obtain rfl := noneD_ok hr'
          obtain ⟨o', b1, b2⟩ := a3
          exact ⟨r', q1 W' H' (f2.dropX e' hy) z' p' y o' (fresh_back e1 hy) a1 a2 b1 b2⟩
        · rw [if_neg hr'] at q1
          exact q1.elim
    · rw [if_neg hn] at q1
      exact q1.elim
  refine PySem.W.callWith_K (h₀ := X.base) I.ok.mod.kin hk.kp (thn (ha.run pos pins s0 σ H _ I key) fun us s1 ⟨vs, H1, I1, r, hq⟩ => ⟨I1.kIn, ?_⟩) (starEach_plain hp.1) (noafter hp.2)
  exact run_mk hk F hr hb (passAt tk σ) I1 r hq
/-! ### the pool, read -/
def pixF (d e : D) : M D := fun g => match g with
  | none => .stuck
  | some p => match e with
    | .int i => match d with
      | .pool => if i = 0 then .ok (.int p.seed) g else if i = 1 then .ok (.int p.cnt) g else if i = 2 then .ok .cel g else .stuck
      | .cel => if i = 0 then (match p.cells with
        | c :: _ => .ok (.int c) g
        | [] => .stuck) else .stuck
      | _ => .stuck
    | _ => .stuck
def plenF (d : D) : M D := fun g => match g with
  | none => .stuck
  | some p => match d with
    | .cel => .ok (.int p.cells.length) g
    | _ => .stuck
def pixM (fa fb : Env → M D) : Env → M D := fun env => (fa env).bind fun d => (fb env).bind fun e => pixF d e
def plenM (fa : Env → M D) : Env → M D := fun env => (fa env).bind fun d => plenF d
variable {X : Cx} {Wx : WX}
theorem pe_pixD (K : X.K = S.K) {a b : Expr} {fa fb : Env → M D} {pos : Pos} (ha : PE X a (tD S Wx fa)) (hb : PE X b (tD S Wx fb)) (hs : notSlice b = true) : PE X (.Subscript a b pos) (tD S Wx (pixM fa fb)) := by
  refine impE (pe_ix ix_seq ha hb (plainIx_of hs)) fun σ H Q ⟨env, W, g, st, q⟩ => ⟨env, W, g, st, q.bind.mono fun d g1 W1 H1 e1 z1 p1 q1 x rx => ⟨env, W1, g1, st.next e1 z1 p1, q1.bind.mono fun e g2 W2 H2 e2 z2 p2 q2 y ry => ?_⟩⟩
  have rx := rx.mono e2.le
  unfold pixF at q2
  cases g2 with
  | none => exact q2.elim
  | some p =>
    obtain ⟨A, l, eW, ne, k1, k2, hA, hl⟩ := p2
    have p2 : PoolIn W2 H2 (some p) := ⟨A, l, eW, ne, k1, k2, hA, hl⟩
    simp only at q2
    split at q2
    · rename_i i
      obtain rfl : y = .int i := ry
      split at q2
      · obtain ⟨A', l', e', rfl⟩ := rx
        rw [eW] at e'
        cases e'
        split at q2
        · rename_i h
          subst h
          exact .inl ⟨A, _, 0, _, rfl, rfl, .inl (.inl hA), rfl, Out.ret (α := D) (k := fun d _ W' H' => ∀ y, Rep S W' d y → Q y H') q2 z2 p2 _ rfl⟩
        · split at q2
          · rename_i h
            subst h
            exact .inl ⟨A, _, 1, _, rfl, rfl, .inl (.inl hA), rfl, Out.ret (α := D) (k := fun d _ W' H' => ∀ y, Rep S W' d y → Q y H') q2 z2 p2 _ rfl⟩
          · split at q2
            · rename_i h
              subst h
              exact .inl ⟨A, _, 2, _, rfl, rfl, .inl (.inl hA), rfl, Out.ret (α := D) (k := fun d _ W' H' => ∀ y, Rep S W' d y → Q y H') q2 z2 p2 _ ⟨A, l, eW, rfl⟩⟩
            · exact q2.elim
      · obtain ⟨A', l', e', rfl⟩ := rx
        rw [eW] at e'
        cases e'
        split at q2
        · rename_i h
          subst h
          split at q2
          · rename_i c r hc
            rw [hc] at hl
            have at0 : L2.atI (List.map V.int (c :: r)) 0 = some (V.int c) := by
              unfold L2.atI
              rw [show L2.ixN (List.map V.int (c :: r)).length 0 = some 0 by simp [L2.ixN]]
              rfl
            exact .inl ⟨l, _, 0, _, rfl, rfl, .inl (.inl hl), at0, Out.ret (α := D) (k := fun d _ W' H' => ∀ y, Rep S W' d y → Q y H') q2 z2 p2 _ rfl⟩
          · exact q2.elim
        · exact q2.elim
      · exact q2.elim
    · exact q2.elim
theorem pe_plenD (K : X.K = S.K) {a : Expr} {fa : Env → M D} {p pos : Pos} (hg : Gl X "len") (hm : X.mg "len" = none) (ha : PE X a (tD S Wx fa)) (hp : plainX a = true) : PE X (.Call (.Name "len" p) [a] [] pos) (tD S Wx (plenM fa)) := by
  refine impE (pe_callB call_len hg hm PySem.boot_len (pa_cons ha pa_nil (starEach_plain hp)) (by decide +kernel) (by decide +kernel) (starEach_plain hp) rfl) fun σ H Q ⟨env, W, g, st, q⟩ => ⟨env, W, g, st, q.bind.mono fun d g1 W1 H1 e1 z1 p1 q1 x rx => ?_⟩
  unfold plenF at q1
  cases g1 with
  | none => exact q1.elim
  | some p =>
    obtain ⟨A, l, eW, ne, k1, k2, hA, hl⟩ := p1
    have p1 : PoolIn W1 H1 (some p) := ⟨A, l, eW, ne, k1, k2, hA, hl⟩
    simp only at q1
    split at q1
    · obtain ⟨A', l', e', rfl⟩ := rx
      rw [eW] at e'
      cases e'
      rw [K]
      exact ⟨.ref l, _, rfl, .inl ⟨_, .inl (.inl hl), rfl⟩, by rw [List.length_map]; exact Out.ret (α := D) (k := fun d _ W' H' => ∀ y, Rep S W' d y → Q y H') q1 z1 p1 _ rfl⟩
    · exact q1.elim
end
end Dv
end
section
set_option maxHeartbeats 800000
/-! DvEq: ==, != of own instances by an own __eq__. -/
namespace DvN
open PySem PySem.Spec PyProof.Rows PySem.SeqAt
section
variable {prog : Program} {w : World} {A : Around} {E : Value → Shared → Prop} {s : Shared} {K : PySem.W.Frag} {x C f L : Addr} {h₀ : Heap} {m : Str → Option Value} {ox : Obj} {od : Option Obj} {b tb : Value}
theorem ifBound_objNe {M : Model} {args : List Value} {Q : Option Value → Shared → Prop} (X : K.In s.heap) (I : PySem.W.InstAt s.heap x ox C od) (hs : PySem.W.findIn K (.ref C) "__ne__" = some (some (.builtin "object.__ne__")))
    (h : wpAny M A (call (.builtin "object.__ne__") (.ref x :: args)) (fun v => Q (some v)) E s) : wpAny M A (callSpecialIfBound? (.ref x) "__ne__" args) Q E s := by
  simp only [callSpecialIfBound?, bindSpecialIfBound?]
  refine wpAny_holding (wpAny_bind (wpAny_bind (wpAny_bind (I.type.here ((PySem.W.looks_findIn X hs).here ?_)))))
  refine wpAny_bind (wpAny_askSetting (wpAny_ite ?_))
  have fin : wpAny M A (call (.builtin "object.__ne__") ([.ref x] ++ args) >>= fun v => pure (some v)) Q E s := wpAny_bind (wpAny_mono h (fun v s' h' => wpAny_pure h') fun _ _ h' => h')
  split
  · exact wpAny_bind (wpAny_of_eq (F.cmp_object.ne.bind _) (wpAny_pure (by exact fin)))
  · exact wpAny_tryCatch (wpAny_bind (wpAny_of_eq (F.cmp_object.ne.bind _) (wpAny_pure (by exact fin))))
theorem entry_ne {Q : Fin → Shared → Prop} (hu : A.units < cLine) (X : K.In s.heap) (I : PySem.W.InstAt s.heap x ox C od) (hs : PySem.W.findIn K (.ref C) "__eq__" = some (some (.ref f))) (hf : PySem.W.isFn K (.ref f) = true)
    (hcall : wpAny (model prog w) A (call (.ref f) [.ref x, b]) (fun v s' => ∃ t, v = .bool t ∧ Q (.done (.ret (.bool (!t)))) s') E s) :
    wpAny (model prog w) A (Builtin.«object.__ne__» ⟨[.ref x, b], []⟩) Q E s := by
  unfold Builtin.«object.__ne__»
  repeat (first
    | with_reducible refine wpAny_cRoomFor hu ?_
    | (refine wpAny_bind (m := callSpecialIfBound? (.ref x) (Str.ofString "__eq__") [b])
        (PySem.W.ifBound_K X I hs hf (wpAny_mono hcall (fun r s' hr => by
          obtain ⟨t, rfl, hq⟩ := hr
          repeat (first | exact hq | exact wpAny_pure hq | exact wpAny_truthy_bool hq | (refine wpAny_bind (m := truthy (.bool _)) (wpAny_truthy_bool ?_)) | wp_step)) fun _ _ e => e)))
    | wp_step)
theorem ne_K {Q : Value → Shared → Prop} (hu : A.units + 1 < cLine) (X : K.In s.heap) (I : PySem.W.InstAt s.heap x ox C od) (hb : PySem.W.Looks (model prog w) s.heap (typeOf b) tb) (hn : PySem.W.notFirst K C tb = true)
    (hm : PySem.W.mroIn K C (.type "object") = some true) (hne : PySem.W.findIn K (.ref C) "__ne__" = some (some (.builtin "object.__ne__"))) (hs : PySem.W.findIn K (.ref C) "__eq__" = some (some (.ref f))) (hf : PySem.W.isFn K (.ref f) = true)
    (h : wpAny (model prog w) A.in1 (call (.ref f) [.ref x, b]) (fun v s' => ∃ t, v = .bool t ∧ Q (.bool (!t)) s') E s) : wpAny (model prog w) A (richCompare .NotEq (.ref x) b) Q E s := by
  have one : wpAny (model prog w) A (tryCompare (.ref x) "__ne__" b) (fun r s' => ∃ v, r = some v ∧ Q v s') E s := by
    unfold tryCompare
    refine wpAny_bind (ifBound_objNe X I hne (wpAny_call (codeAny_call_builtin F.cmp_object.ne.plain F.cmpEntry_ne (PySem.W.check_slot F.cmpKind_ne F.cmpSplit_ne (I.type.andThen (PySem.W.looks_mroIn X hm)) (F.cmpArgs_ne _ _)
      (entry_ne (A := A.in1) hu X I hs hf (wpAny_mono h (fun v s' hv => ?_) fun _ _ e => e))))))
    obtain ⟨t, rfl, hq⟩ := hv
    first | exact ⟨t, rfl, wpAny_pure ⟨_, rfl, hq⟩⟩ | exact ⟨t, rfl, wpAny_pure (wpAny_pure ⟨_, rfl, hq⟩)⟩
  unfold richCompare
  simp only [oneThing_ref]
  refine wpAny_holding (wpAny_bind (wpAny_cRoomFor (Nat.lt_of_succ_lt hu) ?_))
  refine wpAny_bind (I.type.here (wpAny_bind (hb.here ?_)))
  split
  · rename_i q
    have e : PySem.W.subIn K tb (.ref C) = some false := by
      rcases Bool.or_eq_true_iff.mp hn with e | e
      · rw [beq_iff_eq.mp e] at q; simp at q
      · exact beq_iff_eq.mp e
    refine wpAny_bind ((PySem.W.looks_subIn X e).here ?_)
    simp only [Bool.false_eq_true, if_false]
    refine wpAny_bind (wpAny_mono one (fun r s' z => ?_) fun _ _ e => e)
    obtain ⟨v, rfl, hq⟩ := z
    exact wpAny_pure hq
  · refine wpAny_bind (wpAny_pure ?_)
    simp only [Bool.false_eq_true, if_false]
    refine wpAny_bind (wpAny_mono one (fun r s' z => ?_) fun _ _ e => e)
    obtain ⟨v, rfl, hq⟩ := z
    exact wpAny_pure hq
end
end DvN

namespace Dv
open PySem PySem.Spec PyProof.Rows L2
/-- an own == is known: of which classes, on which sides -/
structure KnownE (P : Program) (w : World) (S : Sx) (mg : Str → Option Value) (base : Heap) (k : Nat) (prs : List (Nat × Nat)) (s : List D → M D) : Prop where
  ex : ∃ f fd ps, FnOk P w S.K mg base (L2.CX P w) k f fd ps (spD S 2 s) ∧ Binds S.K fd ps [] ∧ PySem.W.isFn S.K (.ref f) = true ∧ ∀ c1 c2, (c1, c2) ∈ prs →
    PySem.W.findIn S.K (.ref (S.cls c1)) "__eq__" = some (some (.ref f)) ∧ PySem.W.findIn S.K (.ref (S.cls c1)) "__ne__" = some (some (.builtin "object.__ne__")) ∧ PySem.W.mroIn S.K (S.cls c1) (.type "object") = some true ∧ PySem.W.notFirst S.K (S.cls c1) (.ref (S.cls c2)) = true
def eqF (ne : Bool) (m : M D) : M D := fun g => match m g with
  | .ok d g' => (match d with
    | .bl b => .ok (.bl (b != ne)) g'
    | _ => .stuck)
  | _ => .stuck
def oeqD (ne : Bool) (prs : List (Nat × Nat)) (s : List D → M D) (d e : D) : M D := match d, e with
  | .obj c1 fs, .obj c2 gs => if (c1, c2) ∈ prs then eqF ne (s [.obj c1 fs, .obj c2 gs]) else .fail
  | _, _ => .fail
def oeqM (ne : Bool) (prs : List (Nat × Nat)) (s : List D → M D) (fa fb : Env → M D) : Env → M D := fun env => (fa env).bind fun d => (fb env).bind fun e => oeqD ne prs s d e
section
variable {S : Sx} {Wx : WX} {X : Cx}
def rOeq (S : Sx) (ne : Bool) (prs : List (Nat × Nat)) (s : List D → M D) : R2 := fun x y H Q => ∃ W g d e, ZIn W H ∧ PoolIn W H g ∧ Rep S W d x ∧ Rep S W e y ∧ Out S noW [] W H (oeqD ne prs s d e g) fun r _ W' H' => ∀ v, Rep S W' r v → Q v H'
theorem oeq_call {k : Nat} {s : List D → M D} {f : Addr} {fd : FuncData} {ps : List Str} (K : X.K = S.K) (F : FnOk X.prog X.w S.K X.mg X.base (L2.CX X.prog X.w) k f fd ps (spD S 2 s)) (hb : Binds S.K fd ps [])
    {A : Around} (sb : Sub X k A) {pins : List (Addr × Obj)} {s0 : Shared} {σ : L2.St} {H : Hp} (I : Inv X pins σ H s0) {a b : Addr} {W : Gh} {g g' : G} {d e : D} {t : Bool} {R : V → Hp → Prop} (z : ZIn W H) (p : PoolIn W H g) (ra : Rep S W d (.ref a)) (rb : Rep S W e (.ref b))
    (hs : s [d, e] g = .ok (.bl t) g') (hq : ∀ W' H', Ext [] W H W' H' → ZIn W' H' → PoolIn W' H' g' → R (.bl t) H') :
    wpAny (model X.prog X.w) A (call (.ref f) [.ref a, .ref b]) (fun v s' => v = .bool t ∧ ∃ H', Inv X pins σ H' s' ∧ R (.bl t) H') X.xe s0 := by
  rw [← K] at F hb
  have hsp : spD S 2 s [.ref a, .ref b] H (fun v H' => v = .bl t ∧ R (.bl t) H') (fun _ _ _ => False) := by
    refine ⟨rfl, W, g, [d, e], z, p, ⟨ra, rb, trivial⟩, ?_⟩
    rw [hs]
    intro W' H' e' z' p' v rv
    exact ⟨rv, hq W' H' e' z' p'⟩
  have e0 : Env0 X.prog X.w X.K X.mg X.base A X.stack s0 H := by
    have e := I.env0
    exact ⟨by rw [sb.fr]; exact e.frames, e.mod, e.bs, e.bsz, e.funs, e.frf, e.hok, e.bare⟩
  have hl := F.len _ _ _ _ hsp
  have r2 : Vals [V.ref a, V.ref b] [Value.ref a, Value.ref b] := .cons rfl (.cons rfl .nil)
  refine wpAny_call (codeAny_mono (F.run A X.stack s0 H ⟨[.ref a, .ref b], []⟩ [.ref a, .ref b] [.ref a, .ref b] _ (fun _ _ _ => False) sb.room e0 (by
    have := hb s0 [.ref a, .ref b] I.kIn (by simpa using hl)
    simpa using this) r2 hsp) fun r s' hq => ?_)
  cases r with
  | error e =>
    obtain ⟨_, _, _, _, _, _, _, _, _, _, _, _, hE⟩ := hq
    exact hE.elim
  | ok fl =>
    cases fl with
    | ret w =>
      obtain ⟨z, H', I', rz, ez, ex⟩ := I.after hq
      subst ez
      cases rz
      exact ⟨rfl, H', I', ex⟩
    | next => exact False.elim hq
    | brk => exact False.elim hq
    | cont => exact False.elim hq
theorem oeq_inv {ne : Bool} {prs : List (Nat × Nat)} {s : List D → M D} {d e : D} {g : G} {W : Gh} {H : Hp} {k : D → G → Gh → Hp → Prop} {σ : L2.St} (h : Out S Wx σ W H (oeqD ne prs s d e g) k) :
    ∃ c1 c2 fs gs t g', d = .obj c1 fs ∧ e = .obj c2 gs ∧ (c1, c2) ∈ prs ∧ s [d, e] g = .ok (.bl t) g' ∧ Out S Wx σ W H (.ok (.bl (t != ne)) g') k := by
  unfold oeqD at h
  split at h
  · rename_i c1 fs c2 gs
    split at h
    · rename_i hp
      unfold eqF at h
      split at h
      · rename_i d0 g0 hs
        split at h
        · exact ⟨c1, c2, fs, gs, _, _, rfl, rfl, hp, hs, h⟩
        · exact h.elim
      · exact h.elim
    · exact h.elim
  · exact h.elim
theorem op_oeq {k : Nat} {ne : Bool} {prs : List (Nat × Nat)} {s : List D → M D} (K : X.K = S.K) (kn : KnownE X.prog X.w S X.mg X.base k prs s) (hr : Room (k + 1) X.A) : OpR X (compareOp (if ne then .NotEq else .Eq)) (rOeq S ne prs s) := by
  intro pins s0 σ H x y v u Q I rx ry h
  obtain ⟨W, g, d, e, z, p, rd, re, q⟩ := h
  obtain ⟨c1, c2, fs, gs, t, g', rfl, rfl, hp, hs, q⟩ := oeq_inv q
  obtain ⟨f, fd, ps, F, hb, hf, hall⟩ := kn.ex
  obtain ⟨h1, h2, h3, h4⟩ := hall _ _ hp
  have rd0 := rd
  have re0 := re
  obtain ⟨a, dx, vfs, rfl, ha, _⟩ := rd
  obtain ⟨b, dy, wfs, rfl, hbb, _⟩ := re
  cases rx
  cases ry
  have sb : Sub X (k + 1) X.A := ⟨hr, rfl⟩
  obtain ⟨mA, J, _⟩ := ins_get I.hok (z _ _ ha)
  obtain ⟨mB, J', _⟩ := ins_get I.hok (z _ _ hbb)
  obtain ⟨od, J, _⟩ := J.look
  obtain ⟨od', J', _⟩ := J'.look
  obtain ⟨m, hF⟩ := I.fr
  have X1 : X.K.In s0.heap := I.kIn
  rw [← K] at h1 h2 h3 h4 hf
  have hq2 : ∀ W' H', Ext [] W H W' H' → ZIn W' H' → PoolIn W' H' g' → Q (.bl (t != ne)) H' := fun W' H' e' z' p' => q W' H' e' z' p' _ rfl
  cases ne with
  | false =>
    show wpAny (model X.prog X.w) X.A (richCompare .Eq (.ref a) (.ref b)) (EP X pins σ Q) X.xe s0
    refine PySem.W.cmp_K (op := .Eq) (tb := .ref (S.cls c2)) sb.room.units0 hF I.ok.mod.kin J J'.type h4 h1 hf ?_
    refine wpAny_mono (oeq_call (R := fun _ H' => Q (.bl t) H') K F hb (sb.mono (Nat.le_succ k)) I z p rd0 re0 hs (fun W' H' e' z' p' => by
      have := hq2 W' H' e' z' p'
      simpa using this)) (fun v s' hv => ?_) fun _ _ e => e
    obtain ⟨rfl, H', I', hq⟩ := hv
    exact ⟨.bl t, H', I', rfl, hq⟩
  | true =>
    show wpAny (model X.prog X.w) X.A (richCompare .NotEq (.ref a) (.ref b)) (EP X pins σ Q) X.xe s0
    refine DvN.ne_K (tb := .ref (S.cls c2)) (by have := hr.un; omega) X1 J J'.type h4 h3 h2 h1 hf ?_
    refine wpAny_mono (oeq_call (R := fun _ H' => Q (.bl (!t)) H') K F hb sb.in1 I z p rd0 re0 hs (fun W' H' e' z' p' => by
      have := hq2 W' H' e' z' p'
      simpa using this)) (fun v s' hv => ?_) fun _ _ e => e
    obtain ⟨rfl, H', I', hq⟩ := hv
    exact ⟨t, rfl, .bl (!t), H', I', rfl, hq⟩
/-- a == b, a != b -/
theorem oeq_rd {ne : Bool} {prs : List (Nat × Nat)} {s : List D → M D} {fa fb : Env → M D} : ∀ σ H Q, tD S Wx (oeqM ne prs s fa fb) σ H Q → tOp (rOeq S ne prs s) (tD S Wx fa) (tD S Wx fb) σ H Q := by
  rintro σ H Q ⟨env, W, g, st, q⟩
  refine ⟨env, W, g, st, q.bind.mono fun d g1 W1 H1 e1 z1 p1 q1 x rx => ⟨env, W1, g1, st.next e1 z1 p1, q1.bind.mono fun e g2 W2 H2 e2 z2 p2 q2 y ry => ⟨W2, g2, d, e, z2, p2, rx.mono e2.le, ry, ?_⟩⟩⟩
  obtain ⟨c1, c2, fs, gs, t, g', h1, h2, h3, h4, h5⟩ := oeq_inv q2
  subst h1 h2
  unfold oeqD
  simp only [if_pos h3]
  unfold eqF
  rw [h4]
  exact h5
theorem pe_oeqD {k : Nat} {ne : Bool} {prs : List (Nat × Nat)} {s : List D → M D} {a b : Expr} {pos : Pos} {fa fb : Env → M D} (K : X.K = S.K) (kn : KnownE X.prog X.w S X.mg X.base k prs s) (hr : Room (k + 1) X.A)
    (ha : PE X a (tD S Wx fa)) (hb : PE X b (tD S Wx fb)) (hm : behindInMarks (if ne then .NotEq else .Eq) b = false) : PE X (.Compare a [if ne then .NotEq else .Eq] [b] pos) (tD S Wx (oeqM ne prs s fa fb)) :=
  impE (pe_cmpR (op_oeq K kn hr) ha hb hm) oeq_rd
/-! isinstance of own classes -/
structure KnownI (S : Sx) (mg : Str → Option Value) (x : Str) (l : List (Nat × Bool)) : Prop where
  ex : ∃ C, mg x = some (.ref C) ∧ ∀ c b, (c, b) ∈ l → Cls S.K (S.cls c) ∧ PySem.W.findIn S.K (.ref (S.cls c)) "__class__" = some (some (.builtin "object.__class__")) ∧
    PySem.W.specialIn S.K (.builtin "object.__class__") "__get__" = some (some (.builtin "getset_descriptor.__get__")) ∧ PySem.W.takesIn S.K (.builtin "object.__class__") = some true ∧
    PySem.W.mroIn S.K (S.cls c) (.type "object") = some true ∧ PySem.W.kitOne S.K (.ref (S.cls c)) (.ref C) = some b
def iscO (l : List (Nat × Bool)) (d : D) : Option D := match d with
  | .obj c _ => (l.lookup c).map .bl
  | _ => none
theorem lookup_in {α β : Type} [BEq α] [LawfulBEq α] {a : α} {b : β} : ∀ {l : List (α × β)}, l.lookup a = some b → (a, b) ∈ l
  | [], h => by cases h
  | (k, v) :: r, h => by
    rw [List.lookup_cons] at h
    cases q : a == k with
    | true =>
      simp only [q] at h
      cases h
      rw [eq_of_beq q]
      exact List.mem_cons_self
    | false =>
      simp only [q] at h
      exact List.mem_cons_of_mem _ (lookup_in h)
theorem pe_iscD {x : Str} {l : List (Nat × Bool)} {a : Expr} {p p2 pos : Pos} {f : Env → M D} (K : X.K = S.K) (kn : KnownI S X.mg x l) (hgi : Gl X "isinstance") (hmi : X.mg "isinstance" = none) (hgx : Gl X x) (hdx : (x == ("__debug__" : Str)) = false)
    (ha : PE X a (tD S Wx f)) (hp : plainX a = true) : PE X (.Call (.Name "isinstance" p) [a, .Name x p2] [] pos) (tD S Wx (bind1 (iscO l) f)) := by
  obtain ⟨C, hm, hall⟩ := kn.ex
  refine impE (pe_callB call_isi hgi hmi (by decide +kernel) (pa_cons ha (pa_cons (pe_glob (v := .ref C) hgx hm rfl hdx) pa_nil (starEach_plain rfl)) (starEach_plain hp)) (by decide +kernel) (by decide +kernel) (starEach_plain hp) (noafter rfl)) fun σ H Q ⟨env, W, g, st, q⟩ => ?_
  refine ⟨env, W, g, st, q.bind.mono fun d g1 W1 H1 e1 z1 p1 q1 y ry => ?_⟩
  obtain ⟨c0, hc, q2⟩ := q1.of
  unfold iscO at hc
  split at hc
  · rename_i c fs
    obtain ⟨b, hb, rfl⟩ := Option.map_eq_some_iff.mp hc
    obtain ⟨h1, h2, h3, h4, h5, h6⟩ := hall _ _ (lookup_in hb)
    obtain ⟨a', dx, vfs, rfl, ha', _⟩ := ry
    rw [← K] at h1 h2 h3 h4 h5 h6
    exact ⟨.ref a', .ref C, .ref (S.cls c), .ref C, b, rfl, .own C, .base (.ins (z1 _ _ ha') h1 h2 h3 h4 h5), h6, q2 _ _ .refl z1 p1 _ rfl⟩
  · cases hc
/-- the Bool facts about own classes that a head's run is asked for -/
def eqsB (K : PySem.W.Frag) (nm : Nat → Str) (f : Addr) (prs : List (Nat × Nat)) : Bool := PySem.W.isFn K (.ref f) && prs.all fun p =>
  He.eqO (PySem.W.findIn K (.ref (He.ga K (nm p.1))) "__eq__") (some (some (.ref f))) && (He.eqO (PySem.W.findIn K (.ref (He.ga K (nm p.1))) "__ne__") (some (some (.builtin "object.__ne__"))) &&
    (decide (PySem.W.mroIn K (He.ga K (nm p.1)) (.type "object") = some true) && PySem.W.notFirst K (He.ga K (nm p.1)) (.ref (He.ga K (nm p.2)))))
def isisB (K : PySem.W.Frag) (nm : Nat → Str) (x : Str) (l : List (Nat × Bool)) : Bool := He.eqO (PySem.W.specialIn K (.builtin "object.__class__") "__get__") (some (some (.builtin "getset_descriptor.__get__"))) && (decide (PySem.W.takesIn K (.builtin "object.__class__") = some true) && l.all fun p =>
  He.eqO (PySem.W.findIn K (.ref (He.ga K (nm p.1))) "__class__") (some (some (.builtin "object.__class__"))) && (decide (PySem.W.mroIn K (He.ga K (nm p.1)) (.type "object") = some true) && decide (PySem.W.kitOne K (.ref (He.ga K (nm p.1))) (.ref (He.ga K x)) = some p.2)))
/-- own classes of exceptions, asked by isinstance -/
structure KnownX (S : Sx) (mg : Str → Option Value) (x : Str) (l : List (Nat × Bool)) : Prop where
  ex : ∃ C, mg x = some (.ref C) ∧ ∀ c b, (c, b) ∈ l → ExcC S.K (S.cls c) ∧ PySem.W.kitOne S.K (.ref (S.cls c)) (.ref C) = some b
def xcB (K : PySem.W.Frag) (D : Addr) : Bool := He.eqO (PySem.W.findIn K (.ref D) "__getattribute__") (some (some (.builtin "BaseException.__getattribute__"))) && (He.eqO (PySem.W.findIn K (.ref D) "__getattr__") (some none) && (decide (PySem.W.subIn K (.ref D) (.type "BaseException") = some true) && (PySem.W.hasDictIn K D && (He.eqO (PySem.W.findIn K (.ref D) "__class__") (some (some (.builtin "object.__class__"))) &&
  (He.eqO (PySem.W.specialIn K (.builtin "object.__class__") "__get__") (some (some (.builtin "getset_descriptor.__get__"))) && (decide (PySem.W.takesIn K (.builtin "object.__class__") = some true) && decide (PySem.W.mroIn K D (.type "object") = some true)))))))
def xisB (K : PySem.W.Frag) (nm : Nat → Str) (x : Str) (l : List (Nat × Bool)) : Bool := l.all fun p => xcB K (He.ga K (nm p.1)) && decide (PySem.W.kitOne K (.ref (He.ga K (nm p.1))) (.ref (He.ga K x)) = some p.2)
theorem xcB_ok {K : PySem.W.Frag} {D : Addr} (h : xcB K D = true) : ExcC K D := by
  unfold xcB at h
  simp only [Bool.and_eq_true, decide_eq_true_eq] at h
  obtain ⟨h1, h2, h3, h4, h5, h6, h7, h8⟩ := h
  exact ⟨He.eqO_ok h1, He.eqO_ok h2, h3, h4, He.eqO_ok h5, He.eqO_ok h6, h7, h8⟩
end
end Dv
end
section
set_option maxHeartbeats 400000
/-! DvRq: data with dicts, repr of them, the display of a dict of one pair. -/
namespace Dv
open PySem PySem.Spec PyProof.Rows L2

def keyP : Key → PyData
  | .inl i => .int i
  | .inr x => .str x
def keyOf : Key → D
  | .inl i => .int i
  | .inr x => .str x
theorem keyD_of (k : Key) : keyD (keyOf k) = some k := by cases k <;> rfl
mutual
def toQ : D → Option PyData
  | .non => some .none
  | .bl b => some (.bool b)
  | .int i => some (.int i)
  | .str x => some (.str x)
  | .tup ds => (toQs ds).map .tuple
  | .lst ds => (toQs ds).map .list
  | .dct kvs => (toQk kvs).map .dict
  | _ => none
def toQs : List D → Option (List PyData)
  | [] => some []
  | d :: ds => match toQ d, toQs ds with
    | some p, some ps => some (p :: ps)
    | _, _ => none
def toQk : List (D × D) → Option (List (PyData × PyData))
  | [] => some []
  | (k, d) :: r => match keyD k, toQ d, toQk r with
    | some k, some p, some ps => some ((keyP k, p) :: ps)
    | _, _, _ => none
end
theorem key_reads {h : Heap} {k : Key} {u : Value} (e : keyIs k u = true) : Reads h u (keyP k) [] := by
  rcases keyIs_shape e with ⟨i, t, rfl, rfl⟩ | ⟨x, t, rfl, rfl⟩
  · exact .int i t
  · exact .str x t
section
variable {S : Sx} {X : Cx} {pins : List (Addr × Obj)} {σ : L2.St} {H : Hp} {s : Shared} {W : Gh} {Wx : WX}
mutual
theorem rep_reads (I : Inv X pins σ H s) (K : X.K = S.K) (z : ZIn W H) (hs : H sysModules = none) : ∀ (d : D) (v : V) (u : Value) (p : PyData), Rep S W d v → RelV v u → toQ d = some p → ∃ as, Reads s.heap u p as ∧ sysModules ∉ as
  | .non, v, u, p, r, ru, h => by
    obtain rfl : v = .non := r
    cases ru; cases h
    exact ⟨[], .none, by simp⟩
  | .bl b, v, u, p, r, ru, h => by
    obtain rfl : v = .bl b := r
    cases ru; cases h
    exact ⟨[], .bool b, by simp⟩
  | .int i, v, u, p, r, ru, h => by
    obtain rfl : v = .int i := r
    obtain ⟨t, rfl⟩ := ru
    cases h
    exact ⟨[], .int i t, by simp⟩
  | .str x, v, u, p, r, ru, h => by
    obtain rfl : v = .str x := r
    obtain ⟨t, rfl⟩ := ru
    cases h
    exact ⟨[], .str x t, by simp⟩
  | .tup ds, v, u, p, r, ru, h => by
    obtain ⟨a, vs, rfl, ha, ra⟩ := r
    obtain ⟨ps, h1, rfl⟩ := Option.map_eq_some_iff.mp (show (toQs ds).map .tuple = some p from h)
    cases ru
    obtain ⟨its, rv, ⟨o, ho, hc, n, hd⟩, _⟩ := I.tuple (Rep.sqT z ha)
    obtain ⟨as, hr, hn⟩ := reps_reads I K z hs ds vs its ps ra rv h1
    exact ⟨as, .tuple ho hc hd hr, hn⟩
  | .lst ds, v, u, p, r, ru, h => by
    obtain ⟨a, vs, rfl, ha, ra⟩ := r
    obtain ⟨ps, h1, rfl⟩ := Option.map_eq_some_iff.mp (show (toQs ds).map .list = some p from h)
    cases ru
    obtain ⟨its, rv, ⟨o, n, ho, hc, _, hd⟩, _⟩ := I.list (Rep.sqL z ha)
    obtain ⟨as, hr, hn⟩ := reps_reads I K z hs ds vs its ps ra rv h1
    refine ⟨a :: as, .list ho hc hd hr, fun q => ?_⟩
    rcases List.mem_cons.mp q with e | q
    · rw [e, z _ _ ha] at hs; cases hs
    · exact hn q
  | .dct kvs, v, u, p, r, ru, h => by
    obtain ⟨a, kv', rfl, ha, ra⟩ := r
    obtain ⟨ps, h1, rfl⟩ := Option.map_eq_some_iff.mp (show (toQk kvs).map .dict = some p from h)
    cases ru
    obtain ⟨_, hm, us, rk, o, es, ep, ho, hc, hd, _, hp, _⟩ := dk_of I.hok (z _ _ ha)
    obtain ⟨as, bs, hr1, hr2, hn1, hn2⟩ := repk_reads I K z hs kvs kv' us es.toList ps ra rk hp h1
    refine ⟨a :: as ++ bs, .dict ho hc.1 hd hr1 hr2, fun q => ?_⟩
    rcases List.mem_append.mp q with q | q
    · rcases List.mem_cons.mp q with e | q
      · rw [e] at hs
        rw [z _ _ ha] at hs; cases hs
      · exact hn1 q
    · exact hn2 q
  | .obj _ _, _, _, _, _, _, h => by cases h
  | .con _, _, _, _, _, _, h => by cases h
  | .pool, _, _, _, _, _, h => by cases h
  | .cel, _, _, _, _, _, h => by cases h
  | .scr _, _, _, _, _, _, h => by cases h
theorem reps_reads (I : Inv X pins σ H s) (K : X.K = S.K) (z : ZIn W H) (hs : H sysModules = none) : ∀ (ds : List D) (vs : List V) (us : List Value) (ps : List PyData), Reps S W ds vs → Vals vs us → toQs ds = some ps → ∃ as, ReadsAll s.heap us ps as ∧ sysModules ∉ as
  | [], [], us, ps, _, ru, h => by
    cases ru; cases h
    exact ⟨[], .nil, by simp⟩
  | d :: ds, v :: vs, us, ps, r, ru, h => by
    have h : (match toQ d, toQs ds with | some p, some ps => some (p :: ps) | _, _ => none) = some ps := h
    split at h
    · rename_i p qs h1 h2
      cases h
      cases ru with
      | cons r1 r2 =>
        obtain ⟨as, k1, n1⟩ := rep_reads I K z hs d v _ p r.1 r1 h1
        obtain ⟨bs, k2, n2⟩ := reps_reads I K z hs ds vs _ qs r.2 r2 h2
        exact ⟨as ++ bs, .cons k1 k2, by simp [n1, n2]⟩
    · cases h
  | [], _ :: _, _, _, r, _, _ => r.elim
  | _ :: _, [], _, _, r, _, _ => r.elim
theorem repk_reads (I : Inv X pins σ H s) (K : X.K = S.K) (z : ZIn W H) (hs : H sysModules = none) : ∀ (ds : List (D × D)) (vs : List (Key × V)) (us : List (Key × Value)) (es : List DictEntry) (ps : List (PyData × PyData)), RepK S W ds vs → KV vs us →
    Pairs (mixKind X.prog X.w) es us → toQk ds = some ps → ∃ as bs, ReadsAll s.heap (es.map (·.key)) (ps.map (·.1)) as ∧ ReadsAll s.heap (es.map (·.val)) (ps.map (·.2)) bs ∧ sysModules ∉ as ∧ sysModules ∉ bs
  | [], [], us, es, ps, _, ru, hp, h => by
    cases ru; cases hp; cases h
    exact ⟨[], [], .nil, .nil, by simp, by simp⟩
  | (k, d) :: ds, (k', v) :: vs, us, es, ps, r, ru, hp, h => by
    have h : (match keyD k, toQ d, toQk ds with | some k, some p, some ps => some ((keyP k, p) :: ps) | _, _, _ => none) = some ps := h
    obtain ⟨e1, r1, r2⟩ := r
    rw [e1] at h
    split at h
    · rename_i k2 p qs h0 h1 h2
      cases h0; cases h
      cases ru with
      | cons q1 q2 =>
        cases hp with
        | cons t1 t2 t3 =>
          obtain ⟨q11, q12⟩ := q1
          obtain ⟨as, bs, k1, k2, n1, n2⟩ := repk_reads I K z hs ds vs _ _ qs r2 q2 t3 h2
          obtain ⟨cs, k3, n3⟩ := rep_reads I K z hs d v _ p r1 q12 h1
          rw [← t2] at k3
          have t1 : keyIs _ _ = true := t1
          rw [← q11] at t1
          exact ⟨[] ++ as, cs ++ bs, .cons (key_reads t1) k1, .cons k3 k2, by simpa using n1, by simp [n3, n2]⟩
    · cases h
  | [], _ :: _, _, _, _, r, _, _, _ => r.elim
  | _ :: _, [], _, _, _, r, _, _, _ => r.elim
end
theorem noSys (I : Inv X pins σ H s) (hs : (X.base.get? sysModules).isSome = true) : H sysModules = none := by
  obtain ⟨o, ho⟩ := Option.isSome_iff_exists.mp hs
  exact (I.bs _ _ ho).2
/-! ### repr -/
def repC (p : PyData) : Prop := p.showable = true ∧ p.depth ≤ 64 ∧ p.shown.length ≤ sizeLine
def repO (d : D) : Option D := (toQ d).bind fun p => if cb (repC p) then some (.str p.shown) else none
def repN : List D → Option D
  | [d] => repO d
  | _ => none
def rRepr (S : Sx) : List V → Hp → VK → Prop := fun vs H Q => ∃ W d p v, vs = [v] ∧ ZIn W H ∧ Rep S W d v ∧ toQ d = some p ∧ repC p ∧ Q (.str p.shown) H
theorem call_reprD (K : X.K = S.K) (hg : X.A.guards = some []) (hu : X.A.units + 70 < cLine) (hs : (X.base.get? sysModules).isSome = true) : CallR X (.builtin "repr") (rRepr S) := by
  intro pins s σ H vs us Q I rv h
  obtain ⟨W, d, p, v, rfl, z, rd, hp, ⟨c1, c2, c3⟩, q⟩ := h
  obtain ⟨u, rfl, ru⟩ := vals1 rv
  have hn := noSys I hs
  have ref : ∀ a, v = .ref a → wpAny (model X.prog X.w) X.A (call (.builtin "repr") [u]) (EP X pins σ Q) X.xe s := by
    rintro a rfl
    obtain ⟨as, hr, hm⟩ := rep_reads I K z hn d _ u p rd ru hp
    cases ru
    exact repr_of_reads' hr c1 (fun _ => hm) hg (by omega) (fun _ _ e => e) (fun h' u' tk hk => ⟨.str p.shown, H, I.kept hk, ⟨u', rfl⟩, q⟩) c3
  cases d with
  | non =>
    obtain rfl : v = .non := rd
    cases ru; cases hp
    exact PySem.P.repr_of_none ⟨.str _, H, I.tok _, ⟨_, rfl⟩, q⟩
  | bl b =>
    obtain rfl : v = .bl b := rd
    cases ru; cases hp
    refine PySem.P.repr_of_bool ⟨.str _, H, I.tok _, ⟨_, rfl⟩, ?_⟩
    cases b <;> exact q
  | int i =>
    obtain rfl : v = .int i := rd
    obtain ⟨t, rfl⟩ := ru
    cases hp
    exact PySem.P.repr_of_int (of_decide_eq_true c1) ⟨.str _, H, I.tok _, ⟨_, rfl⟩, q⟩
  | str x =>
    obtain rfl : v = .str x := rd
    obtain ⟨t, rfl⟩ := ru
    cases hp
    exact PySem.P.repr_of_str ⟨.str _, H, I.tok _, ⟨_, rfl⟩, q⟩ c3
  | tup ds => obtain ⟨a, _, rfl, _⟩ := rd; exact ref a rfl
  | lst ds => obtain ⟨a, _, rfl, _⟩ := rd; exact ref a rfl
  | dct ds => obtain ⟨a, _, rfl, _⟩ := rd; exact ref a rfl
  | _ => cases hp
theorem opn_rep : OpN S (rRepr S) repN := by
  intro W H g vs ds c Q z pl rs hc k
  unfold repN at hc
  split at hc
  · rename_i d
    obtain ⟨v, rfl, rv⟩ : ∃ v, vs = [v] ∧ Rep S W d v := by
      cases vs with
      | nil => exact rs.elim
      | cons v vs =>
        cases vs with
        | nil => exact ⟨v, rfl, rs.1⟩
        | cons _ _ => exact rs.2.elim
    obtain ⟨p, hp, hc⟩ := Option.bind_eq_some_iff.mp hc
    split at hc
    · rename_i hb
      cases hc
      exact ⟨W, d, p, v, rfl, z, rv, hp, cb_iff.mp hb, k.same z pl rfl⟩
    · cases hc
  · cases hc

/-! ### {k: v} -/
theorem relay {W2 : Gh} {H2 : Hp} {g : G} {p : Addr} {o1 o2 : HO} (hp : H p = none) (e2 : Ext [] W (upd H p o1) W2 H2) (z2 : ZIn W2 H2) (p2 : PoolIn W2 H2 g) (nz2 : W2.Z p = none) (np2 : ¬ inPool W2 p) :
    Ext [] W H (frz W2 p o2) (upd H2 p o2) ∧ ZIn (frz W2 p o2) (upd H2 p o2) ∧ PoolIn (frz W2 p o2) (upd H2 p o2) g := by
  have e3 : Ext [] W H W2 H2 := (Ext.fresh hp).trans e2
  have hp1 : upd H p o1 p ≠ none := by rw [upd_same]; simp
  refine ⟨⟨e3.le.trans (frz_le nz2), fun a o ha hn hx => ?_, fun a ha => ?_, fun a o ha => ?_, fun a ha => e3.newp a ha⟩, fun a o ha => ?_, ?_⟩
  · have hne : a ≠ p := ne_of_none ha hp
    rw [upd_ne hne]
    exact e3.keep a o ha hn hx
  · by_cases q : a = p
    · subst q; rw [upd_same]; simp
    · rw [upd_ne q]; exact e3.there a ha
  · have ha : upd W2.Z p o2 a = some o := ha
    by_cases q : a = p
    · subst q; exact .inr hp
    · rw [upd_ne q] at ha; exact e3.new a o ha
  · have ha : upd W2.Z p o2 a = some o := ha
    by_cases q : a = p
    · subst q; rw [upd_same] at ha ⊢; exact ha
    · rw [upd_ne q] at ha ⊢; exact z2 a o ha
  · cases g with
    | none => exact p2
    | some t =>
      obtain ⟨a, l, e, ne, k1, k2, h1, h2⟩ := p2
      have na : a ≠ p := fun q => np2 ⟨a, l, e, .inl q.symm⟩
      have nl : l ≠ p := fun q => np2 ⟨a, l, e, .inr q.symm⟩
      refine ⟨a, l, e, ne, ?_, ?_, ?_, ?_⟩
      · show upd W2.Z p o2 a = none
        rw [upd_ne na]; exact k1
      · show upd W2.Z p o2 l = none
        rw [upd_ne nl]; exact k2
      · rw [upd_ne na]; exact h1
      · rw [upd_ne nl]; exact h2
def dspM (k : Key) (f : Env → M D) : Env → M D := fun env => (f env).bind fun d => .ret (.dct [(keyOf k, d)])
theorem pe_dspD {k : Key} {ke ve : Expr} {f : Env → M D} {pos : Pos} (hk : PE X ke (tC (kV k))) (hv : PE X ve (tD S Wx f)) : PE X (.Dict [some ke] [ve] pos) (tD S Wx (dspM k f)) :=
  impE (pe_disp (pps_cons hk hv pps_nil) rfl rfl (by simp) (by simp)) fun σ H Q ⟨env, W, g, st, q⟩ p hp => by
    have np := nopool st.pool hp
    have nz := noZ st.zin hp
    show tC (kV k) σ (upd H p (.dK [])) _
    show tD S Wx f σ (upd H p (.dK [])) _
    refine ⟨env, W, g, ⟨st.zin.fresh hp, st.pool.fresh hp, st.slots, st.len⟩, ?_⟩
    have q := q.bind
    have up : ∀ {W' H'}, Ext [] W (upd H p (.dK [])) W' H' → Ext [] W H W' H' := fun e => (Ext.fresh hp).trans e
    cases e : f env g with
    | stuck => rw [e] at q; exact q.elim
    | err x g1 =>
      rw [e] at q
      exact fun W' H' c dx e' => q W' H' c dx (up e')
    | ok d g1 =>
      rw [e] at q
      intro W2 H2 e2 z2 p2 v rv
      have hp1 : upd H p (.dK []) p ≠ none := by rw [upd_same]; simp
      have h2 : H2 p = some (.dK []) := e2.keep p _ upd_same np (by simp)
      have nz2 : W2.Z p = none := by
        cases t : W2.Z p with
        | none => rfl
        | some o =>
          rcases e2.new p o t with t | t
          · rw [nz] at t; cases t
          · exact absurd t hp1
      have np2 : ¬ inPool W2 p := fun t => by
        rcases e2.newp p t with t | t
        · exact np t
        · exact hp1 t
      refine ⟨h2, [(k, v)], rfl, by simp, ?_⟩
      obtain ⟨e3, z3, p3⟩ := relay (o2 := .dK [(k, v)]) hp e2 z2 p2 nz2 np2
      have hm : mergeK [] [(k, v)] = [(k, v)] := rfl
      rw [hm]
      exact (q _ _ e3 z3 p3).ret z3 p3 _ ⟨p, [(k, v)], rfl, upd_same, keyD_of k, rv.mono (frz_le nz2), trivial⟩
end
end Dv
end
section
set_option maxHeartbeats 400000
/-! DvH: the small syntax, its evaluation, its check against the text. -/
namespace Dv
open PySem PySem.Spec PyProof.Rows L2

mutual
inductive IR where
  | var (i : Nat) | cst (d : D) | tyn (n : String) | glb (x : Str) (i : Int)
  | tup (es : IRs) | lst (es : IRs) | dnew
  | bin (op : Operator) (a b : IR) | neg (a : IR) | not (a : IR)
  | and (a b : IR) | or (a b : IR) | last (a : IR)
  | cmp (op : CmpOp) (a b : IR) | chain (op op' : CmpOp) (a b c : IR)
  | ite (c a b : IR)
  | call (x : Str) (n : Nat) (s : List D → M D) (as : IRs)
  | make (x : Str) (c n : Nat) (s : D → List D → G → RM) (as : IRs)
  | bi (b : BI) (as : IRs) | isi (as : IRs)
  | fld (cs : List Nat) (a : IR) (f : Str)
  | idx (a i : IR) | pidx (a i : IR) | plen (a : IR) | slc (a lo hi : IR) | nop
  | comp (own : List (Str × Nat)) (t : Tg) (it : IT) (c e : IR) | yes
  | oeq (ne : Bool) (prs : List (Nat × Nat)) (s : List D → M D) (a b : IR) | isc (a : IR) (x : Str) (l : List (Nat × Bool))
  | callF (x : Str) (n : Nat) (s : List D → M D) (as : IRs)
  | lset (a : IR) | sset (a : IR) | rev (a : IR) | rg (t : Bool) (as : IRs) | idm (a e : IR)
  | rep (a : IR) | dsp (k : Key) (a : IR) | call0 (x : Str) (s : List D → M D)
  | callN (x : Str) (n : Nat) (s : List D → M D) (as : IRs)
inductive IRs where
  | nil | cons (a : IR) (r : IRs)
inductive IT where
  | rng1 (a : IR) | rng2 (a b : IR) | seq (a : IR) | zip (a b : IR) | enum (a : IR)
end

/-! ### isinstance of built-in types -/
def tyNames : List String := ["NoneType", "bool", "int", "str", "list", "tuple", "dict"]
def isiB (a b : String) : Option Bool := if a ∈ tyNames ∧ b ∈ tyNames then some (a == b || (a == "bool" && b == "int")) else none
theorem isiB_ok {a b : String} {r : Bool} (h : isiB a b = some r) : kitB a b = some r := by
  unfold isiB at h
  split at h
  · rename_i hm
    have key : tyNames.all (fun a => tyNames.all fun b => decide (kitB a b = some (a == b || (a == "bool" && b == "int")))) = true := by decide +kernel
    have := List.all_eq_true.mp (List.all_eq_true.mp key a hm.1) b hm.2
    rw [← h]
    exact of_decide_eq_true this
  · cases h
def tyN : D → Option String
  | .non => some "NoneType" | .bl _ => some "bool" | .int _ => some "int" | .str _ => some "str" | .lst _ => some "list" | .tup _ => some "tuple" | .dct _ => some "dict"
  | _ => none
def isiAny (m : String) : List D → Option Bool
  | [] => some false
  | .con (.ty n) :: r => match isiB m n, isiAny m r with
    | some b, some c => some (b || c)
    | _, _ => none
  | _ => none
def isiOne (m : String) (d : D) : Option Bool := match d with
  | .con (.ty n) => isiB m n
  | .tup ds => isiAny m ds
  | _ => none
def isiF (ds : List D) : Option D := match ds with
  | [d, e] => (tyN d).bind fun m => (isiOne m e).map .bl
  | _ => none
section
variable {S : Sx} {X : Cx} {Wx : WX}
theorem tyN_ok {W : Gh} {H : Hp} {v : V} {m : String} (z : ZIn W H) : ∀ (d : D), Rep S W d v → tyN d = some m → TyX S.K H v (.type m)
  | .non, r, h => by obtain rfl : v = _ := r; cases h; exact .base .non
  | .bl _, r, h => by obtain rfl : v = _ := r; cases h; exact .base (.bl _)
  | .int _, r, h => by obtain rfl : v = _ := r; cases h; exact .base (.int _)
  | .str _, r, h => by obtain rfl : v = _ := r; cases h; exact .base (.str _)
  | .lst _, ⟨a, vs, e, ha, _⟩, h => by subst e; cases h; exact .base (.lst (z _ _ ha))
  | .tup _, ⟨a, vs, e, ha, _⟩, h => by subst e; cases h; exact .base (.tup (z _ _ ha))
  | .dct _, ⟨a, vs, e, ha, _⟩, h => by subst e; cases h; exact .base (.dK (z _ _ ha))
  | .obj _ _, _, h => by cases h
  | .con _, _, h => by cases h
  | .pool, _, h => by cases h
  | .cel, _, h => by cases h
  | .scr _, _, h => by cases h
theorem isiAny_ok {K : PySem.W.Frag} {W : Gh} {m : String} : ∀ {ds : List D} {vs : List V} {b : Bool}, isiAny m ds = some b → Reps S W ds vs → ∃ us, Paired ClsV vs us ∧ PySem.W.kitAny K (.type m) us = some b
  | [], [], b, h, _ => by cases h; exact ⟨[], .nil, kitAny_nil⟩
  | d :: ds, v :: vs, b, h, r => by
    cases d with
    | con w =>
      cases w with
      | ty n =>
        have h : (match isiB m n, isiAny m ds with | some b, some c => some (b || c) | _, _ => none) = some b := h
        split at h
        · rename_i b1 c1 h1 h2
          cases h
          obtain ⟨us, k1, k2⟩ := isiAny_ok (K := K) h2 r.2
          obtain rfl : v = .ty n := r.1
          refine ⟨.type n :: us, .cons (.ty n) k1, kitAny_cons (kit_ty (isiB_ok h1)) (fun e => ?_) fun e => ?_⟩
          · subst e; simpa using k2
          · subst e; rfl
        · cases h
      | _ => cases h
    | _ => cases h
  | [], _ :: _, _, _, r => r.elim
  | _ :: _, [], _, _, r => r.elim
theorem opn_isi : OpN S (fun vs H Q => rIsi S.K vs H Q ∨ rIsiT S.K vs H Q) isiF := by
  intro W H g vs ds c Q z pl rs hc k
  unfold isiF at hc
  split at hc
  · rename_i d e
    obtain ⟨m, hm, hc⟩ := Option.bind_eq_some_iff.mp hc
    obtain ⟨b, hb, rfl⟩ := Option.map_eq_some_iff.mp hc
    obtain ⟨v, u, rfl, rv, ru⟩ := reps_two rs
    have ty := tyN_ok z d rv hm
    cases e with
    | con w =>
      cases w with
      | ty n =>
        obtain rfl : u = .ty n := ru
        exact .inl ⟨v, .ty n, _, _, b, rfl, .ty n, ty, kit_ty (isiB_ok hb), k.same z pl rfl⟩
      | _ => cases hb
    | tup es =>
      obtain ⟨a, us, rfl, ha, ra⟩ := ru
      obtain ⟨ws, k1, k2⟩ := isiAny_ok (K := S.K) (show isiAny m es = some b from hb) ra
      exact .inr ⟨v, a, us, _, ws, b, rfl, z _ _ ha, k1, ty, k2, k.same z pl rfl⟩
    | _ => cases hb
  · cases hc
end

/-! ### evaluation -/
structure Ev where
  v : Env → M D
  t : Env → M Bool
  p : Env → M (Option Int)
def mkE (f : Env → M D) : Ev := ⟨f, truM f, someP f⟩
def getM (i : Nat) : Env → M D := fun env => match env[i]? with
  | some (some (d, _)) => .ret d
  | _ => .fail
def asB (d : D) : Option Bool := match d with
  | .bl b => some b
  | _ => none
def notM (f : Env → M D) : Env → M D := fun env => (f env).bind fun d => (M.of (tru d)).bind fun b => .ret (.bl (!b))
def notT (f : Env → M Bool) : Env → M Bool := fun env => (f env).bind fun b => .ret (!b)
def andM (f k : Env → M D) : Env → M D := fun env => (f env).bind fun d => (M.of (tru d)).bind fun b => if b = true then k env else .ret d
def andT (f k : Env → M Bool) : Env → M Bool := fun env => (f env).bind fun b => if b = true then k env else .ret false
def orM (f k : Env → M D) : Env → M D := fun env => (f env).bind fun d => (M.of (tru d)).bind fun b => if b = true then .ret d else k env
def orT (f k : Env → M Bool) : Env → M Bool := fun env => (f env).bind fun b => if b = true then .ret true else k env
def chainM (op op' : CmpOp) (fa fb fc : Env → M D) : Env → M D := fun env => (fa env).bind fun d => (fb env).bind fun e => (M.of (cmpD op d e)).bind fun b => if b = true then (fc env).bind fun x => .of (cmpO op' e x) else .ret (.bl false)
def iteM {α : Type} (c : Env → M Bool) (f k : Env → M α) : Env → M α := fun env => (c env).bind fun b => if b = true then f env else k env
def yesT : Env → M Bool := fun _ => .ret true
mutual
def ev : IR → Ev
  | .var i => mkE (getM i)
  | .cst d => mkE fun _ => .ret d
  | .tyn n => mkE fun _ => .ret (.con (.ty n))
  | .glb _ i => mkE fun _ => .ret (.int i)
  | .tup es => mkE (thenM (evs es) (sizeOk .tup))
  | .lst es => mkE (thenM (evs es) (sizeOk .lst))
  | .dnew => mkE fun _ => .ret (.dct [])
  | .bin op a b => mkE (bind2 (binO op) (ev a).v (ev b).v)
  | .neg a => mkE (bind1 negD (ev a).v)
  | .not a => ⟨notM (ev a).v, notT (ev a).t, fun _ => .fail⟩
  | .and a b => ⟨andM (ev a).v (ev b).v, andT (ev a).t (ev b).t, fun _ => .fail⟩
  | .or a b => ⟨orM (ev a).v (ev b).v, orT (ev a).t (ev b).t, fun _ => .fail⟩
  | .last a => ⟨(ev a).v, (ev a).t, fun _ => .fail⟩
  | .cmp op a b => mkE (bind2 (cmpO op) (ev a).v (ev b).v)
  | .chain op op' a b c => mkE (chainM op op' (ev a).v (ev b).v (ev c).v)
  | .ite c a b => ⟨iteM (ev c).t (ev a).v (ev b).v, iteM (ev c).t (ev a).t (ev b).t, fun _ => .fail⟩
  | .call _ n s as => mkE (callM n s (evs as))
  | .callF _ n s as => mkE (callF n s (evs as))
  | .oeq ne prs s a b => mkE (oeqM ne prs s (ev a).v (ev b).v)
  | .isc a _ l => mkE (bind1 (iscO l) (ev a).v)
  | .make _ c n s as => mkE (makeM c n s (evs as))
  | .bi b as => mkE (thenM (evs as) (biO b))
  | .isi as => mkE (thenM (evs as) isiF)
  | .fld cs a f => mkE (bind1 (fldO cs f) (ev a).v)
  | .idx a i => mkE (bind2 idxO (ev a).v (ev i).v)
  | .pidx a i => mkE (pixM (ev a).v (ev i).v)
  | .plen a => mkE (plenM (ev a).v)
  | .slc a lo hi => mkE (slcM (ev a).v (ev lo).p (ev hi).p)
  | .nop => ⟨fun _ => .fail, fun _ => .fail, noP⟩
  | .comp own t it c e => mkE (compM (own.map (·.2)) t (evi it) (ev c).t (ev e).v)
  | .yes => ⟨fun _ => .fail, yesT, fun _ => .fail⟩
  | .lset a => mkE (bind1 lsetO (ev a).v)
  | .sset a => mkE (bind1 ssetO (ev a).v)
  | .rev a => mkE (bind1 revO (ev a).v)
  | .rg t as => mkE (thenM (evs as) (rgO t))
  | .idm a e => mkE (idmM (ev a).v (ev e).v)
  | .rep a => mkE (bind1 repO (ev a).v)
  | .dsp k a => mkE (dspM k (ev a).v)
  | .call0 _ s => mkE fun _ => s []
  | .callN _ n s as => mkE (callM n s (evs as))
def evs : IRs → Env → M (List D)
  | .nil => nilM
  | .cons a r => consM (ev a).v (evs r)
def evi : IT → Env → M (List D)
  | .rng1 a => thenL (consM (ev a).v nilM) rng1O
  | .rng2 a b => thenL (consM (ev a).v (consM (ev b).v nilM)) rng2O
  | .seq a => seqM (ev a).v
  | .zip a b => thenL (consM (ev a).v (consM (ev b).v nilM)) zipO
  | .enum a => thenL (consM (ev a).v nilM) enumO
end

/-! ### the check -/
def visB (sc : Scope) (x : Str) : Bool := match sc.names.lookup x with
  | some .local => true
  | some .cell => true
  | some .free => true
  | _ => false
def glB (sc : Scope) (x : Str) : Bool := (match sc.names.lookup x with | some .globalImplicit => true | _ => false) && !(x == ("__debug__" : Str))
/-- the text's plain facts -/
structure Tx where
  att : List (Nat × Str)
  glob : List (Str × Int)
  exc : List (Str × Nat)
  hnd : List (Str × List (Nat × Bool))
def isTy (n : String) (x : Str) : Bool := decide (x = Str.ofString n) && decide (n ∈ ["int", "bool", "str", "list", "tuple", "dict"])
def cstB (d : D) (c : Const) : Bool := match d with
  | .int i => match c with
    | .int j => decide (i = j)
    | _ => false
  | .bl a => match c with
    | .bool b => a == b
    | _ => false
  | .non => match c with
    | .none => true
    | _ => false
  | .str x => match c with
    | .str y => decide (x = y)
    | _ => false
  | _ => false
def isNop : IR → Bool
  | .nop => true
  | _ => false
/-- its part is its value's int -/
def notNop : IR → Bool
  | .nop => false | .not _ => false | .and _ _ => false | .or _ _ => false | .last _ => false | .ite _ _ _ => false | .yes => false
  | _ => true
def isYes : IR → Bool
  | .yes => true
  | _ => false
mutual
def chk (T : Tx) (N : List Str) : Scope → (Str → Bool) → IR → Expr → Bool
  | sc, _, .var i, e => match e with
    | .Name x _ => decide (N[i]? = some x) && visB sc x && !(x == ("__debug__" : Str)) && !(x == ("__classdict__" : Str))
    | _ => false
  | _, _, .cst d, e => match e with
    | .Constant c _ _ => cstB d c
    | _ => false
  | sc, _, .tyn n, e => match e with
    | .Name x _ => isTy n x && glB sc x
    | _ => false
  | sc, _, .glb x i, e => match e with
    | .Name y _ => decide (y = x) && glB sc y && decide ((x, i) ∈ T.glob)
    | _ => false
  | sc, fn, .tup es, e => match e with
    | .Tuple xs _ _ => chks T N sc fn es xs
    | _ => false
  | sc, fn, .lst es, e => match e with
    | .List xs _ => chks T N sc fn es xs
    | _ => false
  | _, _, .dnew, e => match e with
    | .Dict [] [] _ => true
    | _ => false
  | sc, fn, .bin op a b, e => match e with
    | .BinOp x o y _ => decide (o = op) && chk T N sc fn a x && chk T N sc fn b y
    | _ => false
  | sc, fn, .neg a, e => match e with
    | .UnaryOp .USub x _ => chk T N sc fn a x
    | _ => false
  | sc, fn, .not a, e => match e with
    | .UnaryOp .Not x _ => chk T N sc fn a x
    | _ => false
  | sc, fn, .and a b, e => match e with
    | .BoolOp .And (x :: y :: r) p => chk T N sc fn a x && chk T N sc fn b (.BoolOp .And (y :: r) p)
    | _ => false
  | sc, fn, .or a b, e => match e with
    | .BoolOp .Or (x :: y :: r) p => chk T N sc fn a x && chk T N sc fn b (.BoolOp .Or (y :: r) p)
    | _ => false
  | sc, fn, .last a, e => match e with
    | .BoolOp _ [x] _ => chk T N sc fn a x
    | _ => false
  | sc, fn, .cmp op a b, e => match e with
    | .Compare x [o] [y] _ => decide (o = op) && plainX y && chk T N sc fn a x && chk T N sc fn b y
    | _ => false
  | sc, fn, .chain op op' a b c, e => match e with
    | .Compare x [o, o'] [y, z] _ => decide (o = op) && decide (o' = op') && plainX z && chk T N sc fn a x && chk T N sc fn b y && chk T N sc fn c z
    | _ => false
  | sc, fn, .ite c a b, e => match e with
    | .IfExp z x y _ => chk T N sc fn c z && chk T N sc fn a x && chk T N sc fn b y
    | _ => false
  | sc, fn, .call x _ _ as, e => match e with
    | .Call (.Name y _) (z :: zs) [] _ => decide (y = x) && glB sc y && (z :: zs).all plainX && chks T N sc fn as (z :: zs)
    | _ => false
  | sc, fn, .oeq ne _ _ a b, e => match e with
    | .Compare x [o] [y] _ => decide (o = (if ne then .NotEq else .Eq)) && plainX y && chk T N sc fn a x && chk T N sc fn b y
    | _ => false
  | sc, fn, .isc a x _, e => match e with
    | .Call (.Name i _) [y, .Name z _] [] _ => decide (i = ("isinstance" : Str)) && decide (z = x) && glB sc i && glB sc z && plainX y && chk T N sc fn a y
    | _ => false
  | sc, fn, .callF x _ _ as, e => match e with
    | .Call (.Name y _) (z :: zs) [] _ => decide (y = x) && glB sc y && (z :: zs).all plainX && chks T N sc fn as (z :: zs)
    | _ => false
  | sc, fn, .make x _ _ _ as, e => match e with
    | .Call (.Name y _) (z :: zs) [] _ => decide (y = x) && glB sc y && (z :: zs).all plainX && chks T N sc fn as (z :: zs)
    | _ => false
  | sc, fn, .bi b as, e => match e with
    | .Call (.Name y _) (z :: zs) [] _ => decide (y = biName b) && glB sc y && (z :: zs).all plainX && chks T N sc fn as (z :: zs)
    | _ => false
  | sc, fn, .isi as, e => match e with
    | .Call (.Name y _) (z :: zs) [] _ => decide (y = ("isinstance" : Str)) && glB sc y && (z :: zs).all plainX && chks T N sc fn as (z :: zs)
    | _ => false
  | sc, fn, .fld cs a f, e => match e with
    | .Attribute x g _ => decide (g = f) && plainB x && (cs.all fun c => decide ((c, f) ∈ T.att)) && chk T N sc fn a x
    | _ => false
  | sc, fn, .idx a i, e => match e with
    | .Subscript x y _ => notSlice y && chk T N sc fn a x && chk T N sc fn i y
    | _ => false
  | sc, fn, .pidx a i, e => match e with
    | .Subscript x y _ => notSlice y && chk T N sc fn a x && chk T N sc fn i y
    | _ => false
  | sc, fn, .plen a, e => match e with
    | .Call (.Name y _) [x] [] _ => decide (y = ("len" : Str)) && glB sc y && plainX x && chk T N sc fn a x
    | _ => false
  | sc, fn, .slc a lo hi, e => match e with
    | .Subscript x (.Slice l h none _) _ => chk T N sc fn a x && (match l with | none => isNop lo | some y => notNop lo && chk T N sc fn lo y) && (match h with | none => isNop hi | some y => notNop hi && chk T N sc fn hi y)
    | _ => false
  | _, _, .nop, _ => false
  | sc, fn, .comp own t it c x, e => match e with
    | .ListComp elt [⟨tg, iter, ifs, 0⟩] scope _ =>
      let sc' := relS scope sc
      let fn' := fun y => scope.names.lookup y == some .cell
      blkC N sc scope own && (t.slots.all fun j => decide (j ∈ own.map (·.2))) && chkT N sc' fn' t tg && chkI T N sc fn it tg iter && chk T N sc' fn' x elt &&
        (match ifs with | [] => isYes c | [y] => chk T N sc' fn' c y | _ => false)
    | _ => false
  | _, _, .yes, _ => false
  | sc, fn, .lset a, e => match e with
    | .Call (.Name y _) [.Call (.Name z _) [x] [] _] [] _ => decide (y = ("len" : Str)) && decide (z = ("set" : Str)) && glB sc y && glB sc z && plainX x && chk T N sc fn a x
    | _ => false
  | sc, fn, .sset a, e => match e with
    | .Call (.Name y _) [.Call (.Name z _) [x] [] _] [] _ => decide (y = ("sorted" : Str)) && decide (z = ("set" : Str)) && glB sc y && glB sc z && plainX x && chk T N sc fn a x
    | _ => false
  | sc, fn, .rev a, e => match e with
    | .Subscript x (.Slice none none (some (.UnaryOp .USub (.Constant (.int i) _ _) _)) _) _ => decide (i = 1) && chk T N sc fn a x
    | _ => false
  | sc, fn, .rg t as, e => match e with
    | .Call (.Name y _) [.Call (.Name z _) xs [] _] [] _ => decide (y = (if t then ("tuple" : Str) else ("list" : Str))) && decide (z = ("range" : Str)) && glB sc y && glB sc z && chkRg T N sc fn as xs
    | _ => false
  | sc, fn, .idm a b, e => match e with
    | .Call (.Attribute x at_ ap) [y] [] cp => decide (at_ = ("index" : Str)) && plainB x && plainX y && (ap.endLine == cp.line) && chk T N sc fn a x && chk T N sc fn b y
    | _ => false
  | sc, fn, .rep a, e => match e with
    | .Call (.Name y _) [x] [] _ => decide (y = ("repr" : Str)) && glB sc y && plainX x && chk T N sc fn a x
    | _ => false
  | sc, fn, .dsp k a, e => match e with
    | .Dict [some (.Constant c _ _)] [x] _ => cstB (keyOf k) c && chk T N sc fn a x
    | _ => false
  | sc, fn, .callN x _ _ as, e => match e with
    | .Call (.Name y _) (z :: zs) [] _ => decide (y = x) && glB sc y && (z :: zs).all plainX && chks T N sc fn as (z :: zs)
    | _ => false
  | sc, _, .call0 x _, e => match e with
    | .Call (.Name y _) [] [] _ => decide (y = x) && glB sc y
    | _ => false
def chkRg (T : Tx) (N : List Str) : Scope → (Str → Bool) → IRs → List Expr → Bool
  | sc, fn, .cons a .nil, es => match es with
    | [x] => plainX x && chk T N sc fn a x
    | _ => false
  | sc, fn, .cons a (.cons b .nil), es => match es with
    | [x, y] => plainX x && plainX y && chk T N sc fn a x && chk T N sc fn b y
    | _ => false
  | _, _, _, _ => false
def chks (T : Tx) (N : List Str) : Scope → (Str → Bool) → IRs → List Expr → Bool
  | _, _, .nil, es => match es with
    | [] => true
    | _ => false
  | sc, fn, .cons a r, es => match es with
    | e :: es => plainX e && chk T N sc fn a e && chks T N sc fn r es
    | _ => false
def chkI (T : Tx) (N : List Str) : Scope → (Str → Bool) → IT → Expr → Expr → Bool
  | sc, fn, .rng1 a, _, e => match e with
    | .Call (.Name y _) [x] [] _ => decide (y = ("range" : Str)) && glB sc y && plainX x && chk T N sc fn a x
    | _ => false
  | sc, fn, .rng2 a b, _, e => match e with
    | .Call (.Name y _) [x, z] [] _ => decide (y = ("range" : Str)) && glB sc y && plainX x && plainX z && chk T N sc fn a x && chk T N sc fn b z
    | _ => false
  | sc, fn, .seq a, _, e => plainX e && chk T N sc fn a e
  | sc, fn, .zip a b, tg, e => match tg with
    | .Tuple _ _ _ => match e with
      | .Call (.Name y _) [x, z] [] _ => decide (y = ("zip" : Str)) && glB sc y && plainX x && plainX z && chk T N sc fn a x && chk T N sc fn b z
      | _ => false
    | _ => false
  | sc, fn, .enum a, tg, e => match tg with
    | .Tuple _ _ _ => match e with
      | .Call (.Name y _) [x] [] _ => decide (y = ("enumerate" : Str)) && glB sc y && plainX x && chk T N sc fn a x
      | _ => false
    | _ => false
end
/-- the defs that it calls are known -/
structure KnT where
  f : Str → Nat → (List D → M D) → Prop
  c : Str → Nat → Nat → (D → List D → G → RM) → Prop
  e : List (Nat × Nat) → (List D → M D) → Prop
  i : Str → List (Nat × Bool) → Prop
  x : Str → List (Nat × Bool) → Prop
  g : Prop
  n : Str → Nat → (List D → M D) → Prop
mutual
def knE (Kn : KnT) : IR → Prop
  | .tup es => knEs Kn es
  | .lst es => knEs Kn es
  | .bin _ a b => knE Kn a ∧ knE Kn b
  | .neg a => knE Kn a
  | .not a => knE Kn a
  | .and a b => knE Kn a ∧ knE Kn b
  | .or a b => knE Kn a ∧ knE Kn b
  | .last a => knE Kn a
  | .cmp _ a b => knE Kn a ∧ knE Kn b
  | .chain _ _ a b c => knE Kn a ∧ knE Kn b ∧ knE Kn c
  | .ite c a b => knE Kn c ∧ knE Kn a ∧ knE Kn b
  | .call x n s as => Kn.f x n s ∧ knEs Kn as
  | .callF x n s as => Kn.f x n s ∧ knEs Kn as
  | .oeq _ prs s a b => Kn.e prs s ∧ knE Kn a ∧ knE Kn b
  | .isc a x l => Kn.i x l ∧ knE Kn a
  | .make x c n s as => Kn.c x c n s ∧ knEs Kn as
  | .bi _ as => knEs Kn as
  | .isi as => knEs Kn as
  | .fld _ a _ => knE Kn a
  | .idx a i => knE Kn a ∧ knE Kn i
  | .pidx a i => knE Kn a ∧ knE Kn i
  | .plen a => knE Kn a
  | .slc a lo hi => knE Kn a ∧ knE Kn lo ∧ knE Kn hi
  | .comp _ _ it c e => knI Kn it ∧ knE Kn c ∧ knE Kn e
  | .lset a => knE Kn a
  | .sset a => knE Kn a
  | .rev a => knE Kn a
  | .rg _ as => knEs Kn as
  | .idm a e => knE Kn a ∧ knE Kn e
  | .rep a => Kn.g ∧ knE Kn a
  | .dsp _ a => knE Kn a
  | .call0 x s => Kn.f x 0 s
  | .callN x n s as => Kn.n x n s ∧ knEs Kn as
  | _ => True
def knEs (Kn : KnT) : IRs → Prop
  | .nil => True
  | .cons a r => knE Kn a ∧ knEs Kn r
def knI (Kn : KnT) : IT → Prop
  | .rng1 a => knE Kn a
  | .rng2 a b => knE Kn a ∧ knE Kn b
  | .seq a => knE Kn a
  | .zip a b => knE Kn a ∧ knE Kn b
  | .enum a => knE Kn a
end
end Dv
end
section
set_option maxHeartbeats 400000
/-! DvI: the evaluation of expressions is sound. -/
namespace Dv
open PySem PySem.Spec PyProof.Rows L2

def bnames : List Str := ["len", "max", "min", "sum", "all", "any", "abs", "int", "tuple", "list", "sorted", "isinstance", "range", "zip", "bool", "str", "dict", "enumerate", "reversed", "set", "repr"]
/-- an own class of exceptions without a constructor of its own -/
structure ExcK (S : Sx) (mg : Str → Option Value) (x : Str) (c : Nat) : Prop where
  mg : mg x = some (.ref (S.cls c))
  kp : PySem.W.keepIn S.K (.ref (S.cls c)) = true
  ex : ∃ B newId initId bmB, ExcBaseFacts B newId initId bmB ∧ PySem.W.excIn S.K (S.cls c) bmB newId = true
  sub : PySem.W.subIn S.K (.ref (S.cls c)) (.type "BaseException") = some true
  ty : PySem.W.typeIn S.K (.ref (S.cls c)) = some (.type "type")
/-- a name in an 'except' -/
structure HndK (S : Sx) (mg : Str → Option Value) (l : List (Nat × Bool)) (x : Str) : Prop where
  ex : ∃ cv, (mg x = some cv ∨ (mg x = none ∧ bootBuiltins x = some cv ∧ x ≠ "__name__")) ∧ ∀ c b, (c, b) ∈ l → PySem.W.exmOne S.K (.ref (S.cls c)) cv = some b
/-- what the text's top left, as the rules want it -/
structure Txt (T : Tx) (S : Sx) (mg : Str → Option Value) : Prop where
  free : ∀ x ∈ bnames, mg x = none
  att : ∀ c f, (c, f) ∈ T.att → Cls S.K (S.cls c) ∧ NoAttr S.K (S.cls c) f
  glo : ∀ x i, (x, i) ∈ T.glob → ∃ t, mg x = some (.int i t)
  exc : ∀ x c, (x, c) ∈ T.exc → ExcK S mg x c
  hnd : ∀ x l, (x, l) ∈ T.hnd → HndK S mg l x
/-- where one stands -/
structure Cxt (P : Program) (w : World) (mg : Str → Option Value) (base : Heap) (S : Sx) (lev : Nat) (N : List Str) (sc : Scope) (fn : Str → Bool) (Wx : WX) (X : Cx) : Prop where
  hP : X.prog = P
  hw : X.w = w
  hmg : X.mg = mg
  hbase : X.base = base
  K : X.K = S.K
  hN : X.N = N
  nd : N.Nodup
  hsc : X.env.scope = sc
  hfn : ∀ x, fn x = true → X.fn x = true
  calm : X.calm = true
  tk : Takes X Wx
  room : Room lev X.A
  gd : 40 ≤ lev → X.A.guards = some [] ∧ (X.base.get? sysModules).isSome = true
abbrev KnAt (P : Program) (w : World) (mg : Str → Option Value) (base : Heap) (S : Sx) (lev : Nat) : KnT := ⟨fun x n s => ∃ k, k ≤ lev ∧ Known P w S mg base k x n s, fun x c n s => ∃ k, k + 1 ≤ lev ∧ KnownC P w S mg base k x c n s, fun prs s => ∃ k, k + 1 ≤ lev ∧ KnownE P w S mg base k prs s, fun x l => KnownI S mg x l, fun x l => KnownX S mg x l, 40 ≤ lev, fun x n s => ∃ k, k ≤ lev ∧ KnownN P w S mg base k x n s⟩
def isBO : Expr → Bool
  | .BoolOp .. => true
  | _ => false
/-- an expression by its evaluation: as a value, as a test -/
structure OkE (S : Sx) (Wx : WX) (X : Cx) (e : Expr) (m : Ev) : Prop where
  v : PE X e (tD S Wx m.v)
  t : PT X e (tB S Wx m.t)
  w : isBO e = true → PW X e (tB S Wx m.t)
section
variable {P : Program} {w : World} {mg : Str → Option Value} {base : Heap} {S : Sx} {lev : Nat} {N : List Str} {sc : Scope} {fn : Str → Bool} {Wx : WX} {X : Cx} {T : Tx}
theorem Cxt.gl (C : Cxt P w mg base S lev N sc fn Wx X) {x : Str} (h : glB sc x = true) : Gl X x ∧ (x == ("__debug__" : Str)) = false := by
  unfold glB at h
  simp only [Bool.and_eq_true, Bool.not_eq_true'] at h
  refine ⟨?_, h.2⟩
  show X.env.scope.names.lookup x = some .globalImplicit
  rw [C.hsc]
  have := h.1
  split at this
  · assumption
  · cases this
theorem Cxt.vis (C : Cxt P w mg base S lev N sc fn Wx X) {x : Str} (h : visB sc x = true) : Vis X.env.scope x := by
  rw [C.hsc]
  unfold visB at h
  split at h <;> first
    | exact .inl (by assumption)
    | exact .inr (.inl (by assumption))
    | exact .inr (.inr (by assumption))
    | cases h
theorem Cxt.hu (C : Cxt P w mg base S lev N sc fn Wx X) : X.A.units + 65 < cLine := by
  have := C.room.un
  omega
theorem Cxt.hv (C : Cxt P w mg base S lev N sc fn Wx X) : X.A.units + 70 < cLine := by
  have := C.room.un
  omega
theorem Cxt.fr (C : Cxt P w mg base S lev N sc fn Wx X) (TX : Txt T S mg) {x : Str} (h : x ∈ bnames) : X.mg x = none := by
  rw [C.hmg]
  exact TX.free x h
theorem plainTest {e : Expr} {env : PySem.Env} (h : ∀ x p, e ≠ .UnaryOp .Not x p) (h1 : ∀ o v p, e ≠ .BoolOp o v p) (h2 : ∀ a b c p, e ≠ .IfExp a b c p) (h3 : ∀ a b c p, e ≠ .Compare a b c p) :
    ∀ whole, isTrue e env whole = (do let v ← whole; standAt e.pos; holding [v] (truthy v)) := by
  intro whole
  cases e with
  | UnaryOp op x p => cases op <;> first | rfl | exact absurd rfl (h _ _)
  | BoolOp o v p => exact absurd rfl (h1 _ _ _)
  | IfExp a b c p => exact absurd rfl (h2 _ _ _ _)
  | Compare a b c p => exact absurd rfl (h3 _ _ _ _)
  | _ => rfl
theorem OkE.mk1 (K : X.K = S.K) {e : Expr} {f : Env → M D} (h : PE X e (tD S Wx f)) (hb : isBO e = false) (he : ∀ whole, isTrue e X.env whole = (do let v ← whole; standAt e.pos; holding [v] (truthy v))) : OkE S Wx X e (mkE f) :=
  ⟨h, pt_ofD K h he, fun q => by rw [hb] at q; cases q⟩
theorem asB_some {d : D} {b : Bool} (h : asB d = some b) : d = .bl b := by
  cases d <;> first
    | (cases h; rfl)
    | cases h
theorem pe_constD {v : D} {x : V} {e : Expr} (h : PE X e (tC x)) (r : ∀ W, Rep S W v x) : PE X e (tD S Wx fun _ => .ret v) :=
  impE h fun σ H Q ⟨env, W, g, st, q⟩ => Out.ret (α := D) (a := v) (k := fun d _ W' H' => ∀ y, Rep S W' d y → Q y H') q st.zin st.pool x (r W)
theorem pe_notD (K : X.K = S.K) {a : Expr} {f : Env → M D} {pos : Pos} (ha : PE X a (tD S Wx f)) : PE X (.UnaryOp .Not a pos) (tD S Wx (notM f)) :=
  impE (pe_notT ha) fun σ H Q ⟨env, W, g, st, q⟩ => ⟨env, W, g, st, q.bind.mono fun d g1 W1 H1 e1 z1 p1 q1 x rx => by
    obtain ⟨b, hb, q2⟩ := q1.bind.of
    exact ⟨b, by rw [K]; exact tru_rep z1 d rx hb, (q2 _ _ .refl z1 p1).ret z1 p1 _ rfl⟩⟩
theorem pt_notD {a : Expr} {f : Env → M Bool} {pos : Pos} (ha : PT X a (tB S Wx f)) : PT X (.UnaryOp .Not a pos) (tB S Wx (notT f)) :=
  impT (pt_not ha) fun σ H Q ⟨env, W, g, st, q⟩ => ⟨env, W, g, st, q.bind.mono fun b g1 W1 H1 e1 z1 p1 q1 => q1.ret z1 p1⟩
theorem pe_andD (K : X.K = S.K) {a b : Expr} {r : List Expr} {f k : Env → M D} {pos : Pos} (ha : PE X a (tD S Wx f)) (hb : PE X (.BoolOp .And (b :: r) pos) (tD S Wx k)) : PE X (.BoolOp .And (a :: b :: r) pos) (tD S Wx (andM f k)) :=
  impE (pe_andT ha hb) fun σ H Q ⟨env, W, g, st, q⟩ => ⟨env, W, g, st, q.bind.mono fun d g1 W1 H1 e1 z1 p1 q1 x rx => by
    obtain ⟨b, hb, q2⟩ := q1.bind.of
    have q3 := q2 _ _ .refl z1 p1
    refine ⟨b, by rw [K]; exact tru_rep z1 d rx hb, ?_⟩
    cases b with
    | true => exact ⟨env, W1, g1, st.next e1 z1 p1, q3⟩
    | false => exact Out.ret (α := D) (a := d) (k := fun d _ W' H' => ∀ y, Rep S W' d y → Q y H') q3 z1 p1 _ rx⟩
theorem pe_orD (K : X.K = S.K) {a b : Expr} {r : List Expr} {f k : Env → M D} {pos : Pos} (ha : PE X a (tD S Wx f)) (hb : PE X (.BoolOp .Or (b :: r) pos) (tD S Wx k)) : PE X (.BoolOp .Or (a :: b :: r) pos) (tD S Wx (orM f k)) :=
  impE (pe_orT ha hb) fun σ H Q ⟨env, W, g, st, q⟩ => ⟨env, W, g, st, q.bind.mono fun d g1 W1 H1 e1 z1 p1 q1 x rx => by
    obtain ⟨b, hb, q2⟩ := q1.bind.of
    have q3 := q2 _ _ .refl z1 p1
    refine ⟨b, by rw [K]; exact tru_rep z1 d rx hb, ?_⟩
    cases b with
    | false => exact ⟨env, W1, g1, st.next e1 z1 p1, q3⟩
    | true => exact Out.ret (α := D) (a := d) (k := fun d _ W' H' => ∀ y, Rep S W' d y → Q y H') q3 z1 p1 _ rx⟩
theorem pw_andD {a b : Expr} {r : List Expr} {f k : Env → M Bool} {pos : Pos} (ha : PT X a (tB S Wx f)) (hb : PW X (.BoolOp .And (b :: r) pos) (tB S Wx k)) : PW X (.BoolOp .And (a :: b :: r) pos) (tB S Wx (andT f k)) :=
  impW (pw_and ha hb) fun σ H Q ⟨env, W, g, st, q⟩ => ⟨env, W, g, st, q.bind.mono fun b g1 W1 H1 e1 z1 p1 q1 => by
    cases b with
    | true => exact ⟨env, W1, g1, st.next e1 z1 p1, q1⟩
    | false => exact Out.ret (α := Bool) (a := false) (k := fun d _ W' H' => Q d H') q1 z1 p1⟩
theorem pw_orD {a b : Expr} {r : List Expr} {f k : Env → M Bool} {pos : Pos} (ha : PT X a (tB S Wx f)) (hb : PW X (.BoolOp .Or (b :: r) pos) (tB S Wx k)) : PW X (.BoolOp .Or (a :: b :: r) pos) (tB S Wx (orT f k)) :=
  impW (pw_or ha hb) fun σ H Q ⟨env, W, g, st, q⟩ => ⟨env, W, g, st, q.bind.mono fun b g1 W1 H1 e1 z1 p1 q1 => by
    cases b with
    | false => exact ⟨env, W1, g1, st.next e1 z1 p1, q1⟩
    | true => exact Out.ret (α := Bool) (a := true) (k := fun d _ W' H' => Q d H') q1 z1 p1⟩
theorem pe_iteD {c a b : Expr} {t : Env → M Bool} {f k : Env → M D} {pos : Pos} (hc : PT X c (tB S Wx t)) (ha : PE X a (tD S Wx f)) (hb : PE X b (tD S Wx k)) : PE X (.IfExp c a b pos) (tD S Wx (iteM t f k)) :=
  impE (pe_ifExp hc ha hb) fun σ H Q ⟨env, W, g, st, q⟩ => ⟨env, W, g, st, q.bind.mono fun b g1 W1 H1 e1 z1 p1 q1 => by
    cases b with
    | true => exact ⟨env, W1, g1, st.next e1 z1 p1, q1⟩
    | false => exact ⟨env, W1, g1, st.next e1 z1 p1, q1⟩⟩
theorem pt_iteD {c a b : Expr} {t f k : Env → M Bool} {pos : Pos} (hc : PT X c (tB S Wx t)) (ha : PT X a (tB S Wx f)) (hb : PT X b (tB S Wx k)) : PT X (.IfExp c a b pos) (tB S Wx (iteM t f k)) := by
  refine ⟨fun pins s σ H Q I ⟨env, W, g, st, q⟩ => ?_⟩
  show wpAny _ _ (isTrue c X.env (eval c X.env) >>= fun r => if r = true then isTrue a X.env (eval a X.env) else isTrue b X.env (eval b X.env)) _ _ s
  refine wpAny_bind (thn (hc.run pins s σ H (fun b1 H1 => ∃ W1 g1, StOk S W1 env σ H1 g1 ∧ Out S Wx σ W1 H1 ((if b1 = true then f env else k env) g1) fun b _ _ H' => Q b H') I ⟨env, W, g, st, q.bind.mono fun b1 g1 W1 H1 e1 z1 p1 q1 => ⟨W1, g1, st.next e1 z1 p1, q1⟩⟩) fun b1 s1 ⟨H1, I1, W1, g1, st1, q1⟩ => ?_)
  cases b1 with
  | true => exact ha.run pins s1 σ H1 Q I1 ⟨env, W1, g1, st1, q1⟩
  | false => exact hb.run pins s1 σ H1 Q I1 ⟨env, W1, g1, st1, q1⟩
theorem chain_rd {op op' : CmpOp} {r r' : R2} {fa fb fc : Env → M D} (h1 : Op2 S r (cmpO op)) (h2 : Op2 S r' (cmpO op')) : ∀ σ H Q, tD S Wx (chainM op op' fa fb fc) σ H Q → tChain r r' (tD S Wx fa) (tD S Wx fb) (tD S Wx fc) σ H Q := by
  rintro σ H Q ⟨env, W, g, st, q⟩
  refine ⟨env, W, g, st, q.bind.mono fun d g1 W1 H1 e1 z1 p1 q1 x rx => ⟨env, W1, g1, st.next e1 z1 p1, q1.bind.mono fun e g2 W2 H2 e2 z2 p2 q2 y ry => ?_⟩⟩
  obtain ⟨b, hb, q3⟩ := q2.bind.of
  refine h1 W2 H2 g2 x y d e (.bl b) _ z2 p2 (rx.mono e2.le) ry (by unfold cmpO; rw [hb]; rfl) fun z W3 H3 e3 z3 p3 r3 => ?_
  obtain rfl : z = .bl b := r3
  have q4 := q3 W3 H3 e3 z3 p3
  refine ⟨b, rfl, ?_⟩
  cases b with
  | false => exact Out.ret (α := D) (a := .bl false) (k := fun d _ W' H' => ∀ y, Rep S W' d y → Q y H') q4 z3 p3 _ rfl
  | true =>
    refine ⟨env, W3, g2, ((st.next e1 z1 p1).next e2 z2 p2).next e3 z3 p3, q4.bind.mono fun u g4 W4 H4 e4 z4 p4 q5 v rv => ?_⟩
    obtain ⟨c, hc, q6⟩ := q5.of
    exact h2 W4 H4 g4 y v e u c Q z4 p4 (ry.mono (e3.le.trans e4.le)) rv hc fun v W' H' e' z' p' r' => q6 W' H' e' z' p' v r'
theorem lastM {op op' : CmpOp} {b c : Expr} (h : plainX c = true) : lastMarks [op, op'] [b, c] = false := by
  show behindInMarks op' c = false
  exact nobeh h
theorem bl_test {f : Env → M D} (hf : ∀ env g d g', f env g = .ok d g' → ∃ b, d = .bl b) : ∀ σ H Q, tB S Wx (truM f) σ H Q → tTest (tD S Wx f) σ H Q := by
  rintro σ H Q ⟨env, W, g, st, q⟩
  refine ⟨env, W, g, st, ?_⟩
  have q := q.bind
  cases e : f env g with
  | stuck => rw [e] at q; exact q.elim
  | err x g1 => rw [e] at q; exact q
  | ok d g1 =>
    rw [e] at q
    obtain ⟨b, rfl⟩ := hf env g d g1 e
    intro W1 H1 e1 z1 p1 v rv
    obtain rfl : v = .bl b := rv
    have q1 := q W1 H1 e1 z1 p1
    obtain ⟨c, hc, q2⟩ := Out.of q1
    cases hc
    exact ⟨b, rfl, q2 _ _ .refl z1 p1⟩
theorem folded_plain {e : Expr} {env : PySem.Env} (h : plainX e = true) : ∀ x, foldedSetIterable e env x = pure x := by
  intro x
  cases e <;> first | rfl | cases h
theorem isTy_ok {n : String} {x : Str} (h : isTy n x = true) : x = Str.ofString n ∧ x ∈ bnames ∧ bootBuiltins x = some (.type n) ∧ x ≠ "__name__" := by
  unfold isTy at h
  simp only [Bool.and_eq_true, decide_eq_true_eq] at h
  obtain ⟨rfl, hm⟩ := h
  refine ⟨rfl, ?_⟩
  have key : ["int", "bool", "str", "list", "tuple", "dict"].all (fun n => decide (Str.ofString n ∈ bnames ∧ bootBuiltins (Str.ofString n) = some (.type n) ∧ Str.ofString n ≠ "__name__")) = true := by decide +kernel
  exact of_decide_eq_true (List.all_eq_true.mp key n hm)
theorem biName_ok (b : BI) : biName b ∈ bnames ∧ biName b ≠ "__name__" := by
  cases b <;> exact ⟨by decide +kernel, by decide +kernel⟩
end
end Dv
end
section
set_option maxHeartbeats 400000
/-! DvJ: the check and the evaluation of expressions, all together. -/
namespace Dv
open PySem PySem.Spec PyProof.Rows L2
section
variable {P : Program} {w : World} {mg : Str → Option Value} {base : Heap} {S : Sx} {lev : Nat} {N : List Str} {T : Tx}
theorem Cxt.blk {sc : Scope} {fn : Str → Bool} {Wx : WX} {X : Cx} (C : Cxt P w mg base S lev N sc fn Wx X) (s : Shared) (H : Hp) (scope : Scope) (C' : Addr) (cl : List (Str × Addr)) (fp : List Addr) :
    Cxt P w mg base S lev N (relS scope sc) (fun y => scope.names.lookup y == some .cell) noW (X.blk s H scope (compEnvC scope cl C' X.env) fp) :=
  ⟨C.hP, C.hw, C.hmg, C.hbase, C.K, C.hN, C.nd, by show relS scope X.env.scope = _; rw [C.hsc], fun x h => h, C.calm, takes0, C.room, C.gd⟩
theorem all2 {a b : Bool} (h : (a && b) = true) : a = true ∧ b = true := Bool.and_eq_true_iff.mp h
/-- a call of a built-in -/
theorem pe_biD {sc : Scope} {fn : Str → Bool} {Wx : WX} {X : Cx} (C : Cxt P w mg base S lev N sc fn Wx X) (TX : Txt T S mg) {b : BI} {p pos : Pos} {e : Expr} {es : List Expr} {fs : Env → M (List D)} (hg : glB sc (biName b) = true) (ha : PA X (e :: es) (tA S Wx fs)) (hp : (e :: es).all plainX = true) :
    PE X (.Call (.Name (biName b) p) (e :: es) [] pos) (tD S Wx (thenM fs (biO b))) := by
  obtain ⟨h1, h2⟩ := C.gl hg
  obtain ⟨h3, h4⟩ := biName_ok b
  have hp' := all2 (by simpa only [List.all_cons] using hp)
  rcases bi_builtin (S := S) C.K C.calm b with ⟨id, r, hr, ho, hv⟩ | ⟨id, r, hr, ho, hv⟩
  · exact impE (pe_callB hr h1 (C.fr TX h3) hv ha h4 h2 (starEach_plain hp'.1) (noafter hp'.2)) (tCB_of ho)
  · exact impE (pe_callTy hr h1 (C.fr TX h3) hv ha h4 h2 (starEach_plain hp'.1) (noafter hp'.2)) (tCB_of ho)
theorem pe_isiD {sc : Scope} {fn : Str → Bool} {Wx : WX} {X : Cx} (C : Cxt P w mg base S lev N sc fn Wx X) (TX : Txt T S mg) {p pos : Pos} {e : Expr} {es : List Expr} {fs : Env → M (List D)} (hg : glB sc "isinstance" = true) (ha : PA X (e :: es) (tA S Wx fs)) (hp : (e :: es).all plainX = true) :
    PE X (.Call (.Name "isinstance" p) (e :: es) [] pos) (tD S Wx (thenM fs isiF)) := by
  obtain ⟨h1, h2⟩ := C.gl hg
  have hp' := all2 (by simpa only [List.all_cons] using hp)
  exact impE (pe_callB (call_isi.or call_isiT) h1 (C.fr TX (by decide +kernel)) (by decide +kernel) ha (by decide +kernel) h2 (starEach_plain hp'.1) (noafter hp'.2)) (by rw [C.K]; exact tCB_of opn_isi)
theorem rep_as {f : Env → M D} : bind1 repO f = thenM (consM f nilM) repN := by
  funext env g
  unfold bind1 thenM consM nilM M.bind
  cases f env g <;> rfl
theorem pe_repD {X : Cx} {Wx : WX} (K : X.K = S.K) (hgd : X.A.guards = some []) (hu : X.A.units + 70 < cLine) (hs : (X.base.get? sysModules).isSome = true) (hg : Gl X "repr") (hf : X.mg "repr" = none) {p pos : Pos} {e : Expr} {f : Env → M D} (ha : PE X e (tD S Wx f)) (hp : plainX e = true) :
    PE X (.Call (.Name "repr" p) [e] [] pos) (tD S Wx (bind1 repO f)) := by
  rw [rep_as]
  exact impE (pe_callB (call_reprD K hgd hu hs) hg hf (by decide +kernel) (pa_consD ha pa_nilD hp) (by decide +kernel) (by decide) (starEach_plain hp) (noafter rfl)) (tCB_of opn_rep)
theorem getM_out {Wx : WX} {σ : L2.St} {W : Gh} {H : Hp} {i : Nat} {env : Env} {g : G} {k : D → G → Gh → Hp → Prop} (q : Out S Wx σ W H (getM i env g) k) : ∃ d b, env[i]? = some (some (d, b)) ∧ Out S Wx σ W H (M.ret d g) k := by
  unfold getM at q
  cases hq : env[i]? with
  | none => rw [hq] at q; exact q.elim
  | some o =>
    cases o with
    | none => rw [hq] at q; exact q.elim
    | some p =>
      obtain ⟨d, b⟩ := p
      rw [hq] at q
      exact ⟨d, b, rfl, q⟩
mutual
theorem okE (TX : Txt T S mg) : ∀ (ir : IR) (sc : Scope) (fn : Str → Bool) (e : Expr) (Wx : WX) (X : Cx), Cxt P w mg base S lev N sc fn Wx X → chk T N sc fn ir e = true → knE (KnAt P w mg base S lev) ir → OkE S Wx X e (ev ir)
  | .var i, sc, fn, e, Wx, X, C, h, _ => by
    unfold chk at h
    split at h
    · rename_i x p
      simp only [Bool.and_eq_true, Bool.not_eq_true', decide_eq_true_eq] at h
      obtain ⟨⟨⟨h1, h2⟩, h3⟩, h4⟩ := h
      have vis : Vis X.env.scope x := by
        rw [C.hsc]
        unfold visB at h2
        split at h2 <;> first
          | exact .inl (by assumption)
          | exact .inr (.inl (by assumption))
          | exact .inr (.inr (by assumption))
          | cases h2
      refine OkE.mk1 C.K (impE (pe_var (by rw [C.hN]; exact h1) vis h3 h4) fun σ H Q ⟨env, W, g, st, q⟩ => ?_) rfl fun _ => rfl
      obtain ⟨d, b, hq, q⟩ := getM_out q
      obtain ⟨v, k1, k2⟩ := st.slots i d b hq
      exact ⟨v, k1, q.ret st.zin st.pool v k2⟩
    · cases h
  | .cst d, sc, fn, e, Wx, X, C, h, _ => by
    unfold chk at h
    split at h
    · rename_i c k p
      cases d with
      | int i =>
        cases c with
        | int j =>
          obtain rfl : i = j := of_decide_eq_true h
          exact OkE.mk1 C.K (pe_constD pe_int fun _ => rfl) rfl fun _ => rfl
        | _ => cases h
      | bl a =>
        cases c with
        | bool b =>
          obtain rfl : a = b := eq_of_beq h
          exact OkE.mk1 C.K (pe_constD pe_bl fun _ => rfl) rfl fun _ => rfl
        | _ => cases h
      | non =>
        cases c with
        | none => exact OkE.mk1 C.K (pe_constD pe_non fun _ => rfl) rfl fun _ => rfl
        | _ => cases h
      | str x =>
        cases c with
        | str y =>
          obtain rfl : x = y := of_decide_eq_true h
          exact OkE.mk1 C.K (pe_constD pe_str fun _ => rfl) rfl fun _ => rfl
        | _ => cases h
      | _ => cases h
    · cases h
  | .tyn n, sc, fn, e, Wx, X, C, h, _ => by
    unfold chk at h
    split at h
    · rename_i x p
      obtain ⟨h1, h2⟩ := all2 h
      obtain ⟨h3, h4⟩ := C.gl h2
      obtain ⟨_, k2, k3, k4⟩ := isTy_ok h1
      exact OkE.mk1 C.K (pe_constD (v := .con (.ty n)) (pe_bltn (v := .ty n) h3 (C.fr TX k2) k3 rfl k4 h4) fun _ => rfl) rfl fun _ => rfl
    · cases h
  | .glb x i, sc, fn, e, Wx, X, C, h, _ => by
    unfold chk at h
    split at h
    · rename_i y p
      simp only [Bool.and_eq_true, decide_eq_true_eq] at h
      obtain ⟨⟨rfl, h1⟩, h2⟩ := h
      obtain ⟨h3, h4⟩ := C.gl h1
      obtain ⟨t, ht⟩ := TX.glo _ i h2
      exact OkE.mk1 C.K (pe_constD (v := .int i) (pe_glob (v := .int i) h3 (by rw [C.hmg]; exact ht) ⟨t, rfl⟩ h4) fun _ => rfl) rfl fun _ => rfl
    · cases h
  | .tup es, sc, fn, e, Wx, X, C, h, k => by
    unfold chk at h
    split at h
    · exact OkE.mk1 C.K (pe_tupD (okEs TX es sc fn _ Wx X C h k)) rfl fun _ => rfl
    · cases h
  | .lst es, sc, fn, e, Wx, X, C, h, k => by
    unfold chk at h
    split at h
    · exact OkE.mk1 C.K (PE.ofF (pe_lstF (okEs TX es sc fn _ Wx X C h k))) rfl fun _ => rfl
    · cases h
  | .dnew, sc, fn, e, Wx, X, C, h, _ => by
    unfold chk at h
    split at h
    · exact OkE.mk1 C.K (impE pe_dnewK fun σ H Q ⟨env, W, g, st, q⟩ p hp => KF.new (S := S) (W := W) (g := g) (c := .dct []) (Q := Q) (KD.kf fun v W' H' e' z' p' r' => q W' H' e' z' p' v r') st.zin st.pool ⟨[], rfl, trivial⟩ hp) rfl fun _ => rfl
    · cases h
  | .bin op a b, sc, fn, e, Wx, X, C, h, k => by
    unfold chk at h
    split at h
    · simp only [Bool.and_eq_true, decide_eq_true_eq] at h
      obtain ⟨⟨rfl, h1⟩, h2⟩ := h
      obtain ⟨r, ho, h2'⟩ := bin_rule (S := S) C.K _
      exact OkE.mk1 C.K (impE (pe_op ho (okE TX a sc fn _ Wx X C h1 k.1).v (okE TX b sc fn _ Wx X C h2 k.2).v) (tOp_of h2')) rfl fun _ => rfl
    · cases h
  | .neg a, sc, fn, e, Wx, X, C, h, k => by
    unfold chk at h
    split at h
    · exact OkE.mk1 C.K (impE (pe_un un_neg (okE TX a sc fn _ Wx X C h k).v) (tUn_of op1_neg)) rfl fun _ => rfl
    · cases h
  | .not a, sc, fn, e, Wx, X, C, h, k => by
    unfold chk at h
    split at h
    · have ih := okE TX a sc fn _ Wx X C h k
      exact ⟨pe_notD C.K ih.v, pt_notD ih.t, fun q => by cases q⟩
    · cases h
  | .and a b, sc, fn, e, Wx, X, C, h, k => by
    unfold chk at h
    split at h
    · obtain ⟨h1, h2⟩ := all2 h
      have ia := okE TX a sc fn _ Wx X C h1 k.1
      have ib := okE TX b sc fn _ Wx X C h2 k.2
      have pw := pw_andD ia.t (ib.w rfl)
      exact ⟨pe_andD C.K ia.v ib.v, pw.pt, fun _ => pw⟩
    · cases h
  | .or a b, sc, fn, e, Wx, X, C, h, k => by
    unfold chk at h
    split at h
    · obtain ⟨h1, h2⟩ := all2 h
      have ia := okE TX a sc fn _ Wx X C h1 k.1
      have ib := okE TX b sc fn _ Wx X C h2 k.2
      have pw := pw_orD ia.t (ib.w rfl)
      exact ⟨pe_orD C.K ia.v ib.v, pw.pt, fun _ => pw⟩
    · cases h
  | .last a, sc, fn, e, Wx, X, C, h, k => by
    unfold chk at h
    split at h
    · rename_i op x p
      have ia := okE TX a sc fn _ Wx X C h k
      have pw : PW X (.BoolOp op [x] p) (tB S Wx (ev a).t) := by
        cases op with
        | And => exact pw_and1 ia.t
        | Or => exact pw_or1 ia.t
      exact ⟨pe_one ia.v, pw.pt, fun _ => pw⟩
    · cases h
  | .cmp op a b, sc, fn, e, Wx, X, C, h, k => by
    unfold chk at h
    split at h
    · simp only [Bool.and_eq_true, decide_eq_true_eq] at h
      obtain ⟨⟨⟨rfl, h0⟩, h1⟩, h2⟩ := h
      obtain ⟨r, ho, h2'⟩ := cmp_rule (S := S) C.K C.hu _
      have ia := okE TX a sc fn _ Wx X C h1 k.1
      have ib := okE TX b sc fn _ Wx X C h2 k.2
      refine ⟨impE (pe_cmpR ho ia.v ib.v (nobeh h0)) (tOp_of h2'), impT (pt_cmpR ho ia.v ib.v (nobeh h0)) fun σ H Q q => ?_, fun q => by cases q⟩
      obtain ⟨env, W, g, st, q⟩ := q
      refine ⟨env, W, g, st, q.bind.bind.mono fun d g1 W1 H1 e1 z1 p1 q1 x rx => ⟨env, W1, g1, st.next e1 z1 p1, q1.bind.mono fun e g2 W2 H2 e2 z2 p2 q2 y ry => ?_⟩⟩
      obtain ⟨c, hc, q3⟩ := q2.of
      refine h2' W2 H2 g2 x y d e c _ z2 p2 (rx.mono e2.le) ry hc fun v W3 H3 e3 z3 p3 r3 => ?_
      obtain ⟨b, _, rfl⟩ := Option.map_eq_some_iff.mp (show (cmpD _ d e).map D.bl = some c from hc)
      obtain rfl : v = .bl b := r3
      obtain ⟨t, ht, q4⟩ := (q3 W3 H3 e3 z3 p3).of
      cases ht
      exact ⟨b, rfl, q4 _ _ .refl z3 p3⟩
    · cases h
  | .chain op op' a b c, sc, fn, e, Wx, X, C, h, k => by
    unfold chk at h
    split at h
    · rename_i x o o' y z p
      simp only [Bool.and_eq_true, decide_eq_true_eq] at h
      obtain ⟨⟨⟨⟨⟨e1, e2⟩, h0⟩, h1⟩, h2⟩, h3⟩ := h
      subst e1 e2
      obtain ⟨r, ho, h2'⟩ := cmp_rule (S := S) C.K C.hu o
      obtain ⟨r', ho', h3'⟩ := cmp_rule (S := S) C.K C.hu o'
      have ia := okE TX a sc fn _ Wx X C h1 k.1
      have ib := okE TX b sc fn _ Wx X C h2 k.2.1
      have ic := okE TX c sc fn _ Wx X C h3 k.2.2
      have pe := impE (pe_chain (pos := p) ho ho' ia.v ib.v ic.v (lastM h0)) (chain_rd h2' h3')
      refine ⟨pe, impT (pt_chain ho ho' ia.v ib.v ic.v (lastM h0)) fun σ H Q q => ?_, fun q => by cases q⟩
      have bl : ∀ env g d g', chainM o o' (ev a).v (ev b).v (ev c).v env g = .ok d g' → ∃ b, d = .bl b := by
        intro env g d g' hh
        unfold chainM at hh
        obtain ⟨d1, g1, _, hh⟩ := bind_ok hh
        obtain ⟨d2, g2, _, hh⟩ := bind_ok hh
        obtain ⟨t, g3, _, hh⟩ := bind_ok hh
        cases t with
        | false => cases hh; exact ⟨_, rfl⟩
        | true =>
          obtain ⟨d3, g4, _, hh⟩ := bind_ok hh
          cases hc : cmpO o' d2 d3 with
          | none => rw [hc] at hh; cases hh
          | some z =>
            rw [hc] at hh
            cases hh
            obtain ⟨b, _, rfl⟩ := Option.map_eq_some_iff.mp (show (cmpD o' d2 d3).map D.bl = some d from hc)
            exact ⟨b, rfl⟩
      have q1 := bl_test bl σ H Q q
      exact chain_rd h2' h3' σ H _ q1
    · cases h
  | .ite c a b, sc, fn, e, Wx, X, C, h, k => by
    unfold chk at h
    split at h
    · simp only [Bool.and_eq_true] at h
      obtain ⟨⟨h1, h2⟩, h3⟩ := h
      have ic := okE TX c sc fn _ Wx X C h1 k.1
      have ia := okE TX a sc fn _ Wx X C h2 k.2.1
      have ib := okE TX b sc fn _ Wx X C h3 k.2.2
      exact ⟨pe_iteD ic.t ia.v ib.v, pt_iteD ic.t ia.t ib.t, fun q => by cases q⟩
    · cases h
  | .call x n s as, sc, fn, e, Wx, X, C, h, k => by
    unfold chk at h
    split at h
    · rename_i y p1 z zs p2
      simp only [Bool.and_eq_true, decide_eq_true_eq] at h
      obtain ⟨⟨⟨e1, h1⟩, h2⟩, h3⟩ := h
      subst e1
      obtain ⟨lv, hl, kn⟩ := k.1
      obtain ⟨h4, h5⟩ := C.gl h1
      have ha := okEs TX as sc fn _ Wx X C h3 k.2
      have kn' : Known X.prog X.w S X.mg X.base lv y n s := by
        rw [C.hP, C.hw, C.hmg, C.hbase]; exact kn
      exact OkE.mk1 C.K (pe_callD C.K kn' (C.room.mono hl) h4 C.tk ha h5 h2) rfl fun _ => rfl
    · cases h
  | .oeq ne prs s a b, sc, fn, e, Wx, X, C, h, k => by
    unfold chk at h
    split at h
    · simp only [Bool.and_eq_true, decide_eq_true_eq] at h
      obtain ⟨⟨⟨rfl, h0⟩, h1⟩, h2⟩ := h
      obtain ⟨lv, hl, kn⟩ := k.1
      have kn' : KnownE X.prog X.w S X.mg X.base lv prs s := by
        rw [C.hP, C.hw, C.hmg, C.hbase]; exact kn
      have ia := okE TX a sc fn _ Wx X C h1 k.2.1
      have ib := okE TX b sc fn _ Wx X C h2 k.2.2
      have op := op_oeq (S := S) (ne := ne) C.K kn' (C.room.mono hl)
      refine ⟨pe_oeqD C.K kn' (C.room.mono hl) ia.v ib.v (nobeh h0), impT (pt_cmpR op ia.v ib.v (nobeh h0)) fun σ H Q q => oeq_rd σ H _ (bl_test (fun env g d g' hd => ?_) σ H Q q), fun q => by cases q⟩
      unfold oeqM M.bind at hd
      split at hd
      · simp only at hd
        split at hd
        · unfold oeqD at hd
          split at hd
          · split at hd
            · unfold eqF at hd
              split at hd
              · split at hd
                · cases hd; exact ⟨_, rfl⟩
                · cases hd
              · cases hd
            · cases hd
          · cases hd
        · cases hd
        · cases hd
      · cases hd
      · cases hd
    · cases h
  | .isc a x l, sc, fn, e, Wx, X, C, h, k => by
    unfold chk at h
    split at h
    · rename_i i p1 y z p2 p3
      simp only [Bool.and_eq_true, decide_eq_true_eq] at h
      obtain ⟨⟨⟨⟨⟨rfl, rfl⟩, h3⟩, h4⟩, h5⟩, h6⟩ := h
      obtain ⟨g1, _⟩ := C.gl h3
      obtain ⟨g2, g3⟩ := C.gl h4
      have kn' : KnownI S X.mg z l := by rw [C.hmg]; exact k.1
      exact OkE.mk1 C.K (pe_iscD C.K kn' g1 (C.fr TX (by decide +kernel)) g2 g3 (okE TX a sc fn _ Wx X C h6 k.2).v h5) rfl fun _ => rfl
    · cases h
  | .callF x n s as, sc, fn, e, Wx, X, C, h, k => by
    unfold chk at h
    split at h
    · rename_i y p1 z zs p2
      simp only [Bool.and_eq_true, decide_eq_true_eq] at h
      obtain ⟨⟨⟨e1, h1⟩, h2⟩, h3⟩ := h
      subst e1
      obtain ⟨lv, hl, kn⟩ := k.1
      obtain ⟨h4, h5⟩ := C.gl h1
      have ha := okEs TX as sc fn _ Wx X C h3 k.2
      have kn' : Known X.prog X.w S X.mg X.base lv y n s := by
        rw [C.hP, C.hw, C.hmg, C.hbase]; exact kn
      exact OkE.mk1 C.K (pe_callFD C.K kn' (C.room.mono hl) h4 C.tk ha h5 h2) rfl fun _ => rfl
    · cases h
  | .make x c n s as, sc, fn, e, Wx, X, C, h, k => by
    unfold chk at h
    split at h
    · rename_i y p1 z zs p2
      simp only [Bool.and_eq_true, decide_eq_true_eq] at h
      obtain ⟨⟨⟨e1, h1⟩, h2⟩, h3⟩ := h
      subst e1
      obtain ⟨lv, hl, kn⟩ := k.1
      obtain ⟨h4, h5⟩ := C.gl h1
      have ha := okEs TX as sc fn _ Wx X C h3 k.2
      have kn' : KnownC X.prog X.w S X.mg X.base lv y c n s := by
        rw [C.hP, C.hw, C.hmg, C.hbase]; exact kn
      exact OkE.mk1 C.K (PE.ofF (pe_makeD C.K kn' (C.room.mono hl) h4 C.tk ha h5 h2)) rfl fun _ => rfl
    · cases h
  | .bi b as, sc, fn, e, Wx, X, C, h, k => by
    unfold chk at h
    split at h
    · simp only [Bool.and_eq_true, decide_eq_true_eq] at h
      obtain ⟨⟨⟨rfl, h1⟩, h2⟩, h3⟩ := h
      exact OkE.mk1 C.K (pe_biD C TX h1 (okEs TX as sc fn _ Wx X C h3 k) h2) rfl fun _ => rfl
    · cases h
  | .isi as, sc, fn, e, Wx, X, C, h, k => by
    unfold chk at h
    split at h
    · simp only [Bool.and_eq_true, decide_eq_true_eq] at h
      obtain ⟨⟨⟨rfl, h1⟩, h2⟩, h3⟩ := h
      exact OkE.mk1 C.K (pe_isiD C TX h1 (okEs TX as sc fn _ Wx X C h3 k) h2) rfl fun _ => rfl
    · cases h
  | .fld cs a f, sc, fn, e, Wx, X, C, h, k => by
    unfold chk at h
    split at h
    · simp only [Bool.and_eq_true, decide_eq_true_eq] at h
      obtain ⟨⟨⟨rfl, h1⟩, h2⟩, h3⟩ := h
      exact OkE.mk1 C.K (pe_fldD C.K (okE TX a sc fn _ Wx X C h3 k).v h1 fun c hc => TX.att c _ (of_decide_eq_true (List.all_eq_true.mp h2 c hc))) rfl fun _ => rfl
    · cases h
  | .idx a i, sc, fn, e, Wx, X, C, h, k => by
    unfold chk at h
    split at h
    · simp only [Bool.and_eq_true] at h
      obtain ⟨⟨h1, h2⟩, h3⟩ := h
      exact OkE.mk1 C.K (pe_idxD C.K (okE TX a sc fn _ Wx X C h2 k.1).v (okE TX i sc fn _ Wx X C h3 k.2).v h1) rfl fun _ => rfl
    · cases h
  | .pidx a i, sc, fn, e, Wx, X, C, h, k => by
    unfold chk at h
    split at h
    · simp only [Bool.and_eq_true] at h
      obtain ⟨⟨h1, h2⟩, h3⟩ := h
      exact OkE.mk1 C.K (pe_pixD C.K (okE TX a sc fn _ Wx X C h2 k.1).v (okE TX i sc fn _ Wx X C h3 k.2).v h1) rfl fun _ => rfl
    · cases h
  | .plen a, sc, fn, e, Wx, X, C, h, k => by
    unfold chk at h
    split at h
    · simp only [Bool.and_eq_true, decide_eq_true_eq] at h
      obtain ⟨⟨⟨rfl, h1⟩, h2⟩, h3⟩ := h
      exact OkE.mk1 C.K (pe_plenD C.K (C.gl h1).1 (C.fr TX (by decide +kernel)) (okE TX a sc fn _ Wx X C h3 k).v h2) rfl fun _ => rfl
    · cases h
  | .slc a lo hi, sc, fn, e, Wx, X, C, h, k => by
    unfold chk at h
    split at h
    · rename_i x l u p2 p
      simp only [Bool.and_eq_true] at h
      obtain ⟨⟨h1, h2⟩, h3⟩ := h
      have part : ∀ (ir : IR) (y : Option Expr), (match y with | none => isNop ir | some z => notNop ir && chk T N sc fn ir z) = true → (∀ z, chk T N sc fn ir z = true → OkE S Wx X z (ev ir)) → PO X y (tP S Wx (ev ir).p) := by
        intro ir y hy ih
        cases y with
        | none =>
          cases ir <;> first
            | exact po_noneD
            | cases hy
        | some z =>
          obtain ⟨hn, hz⟩ := all2 hy
          have pe := (ih z hz).v
          cases ir <;> first
            | exact po_someD pe
            | cases hn
      exact OkE.mk1 C.K (pe_slcD C.K (okE TX a sc fn _ Wx X C h1 k.1).v (part lo l h2 fun z hz => okE TX lo sc fn z Wx X C hz k.2.1) (part hi u h3 fun z hz => okE TX hi sc fn z Wx X C hz k.2.2)) rfl fun _ => rfl
    · cases h
  | .nop, sc, fn, e, Wx, X, C, h, _ => by
    unfold chk at h
    cases h
  | .comp own t it c x, sc, fn, e, Wx, X, C, h, k => by
    unfold chk at h
    split at h
    · rename_i elt tg iter ifs scope p
      simp only [Bool.and_eq_true] at h
      obtain ⟨⟨⟨⟨⟨h1, h2⟩, h3⟩, h4⟩, h5⟩, h6⟩ := h
      obtain ⟨pi, hf⟩ := okI TX it sc fn tg iter Wx X C h4 k.1
      refine OkE.mk1 C.K (PE.ofF (pe_compF C.K C.calm (by rw [C.hN]; exact C.nd) pi (by rw [C.hN, C.hsc]; exact blkOk_by h1) (fun j hj => of_decide_eq_true (List.all_eq_true.mp h2 j hj)) (fun s H C' cl fp => ?_) (fun s H C' cl fp => ?_) (fun s H C' cl fp => ?_) hf)) rfl fun _ => rfl
      · have CB := C.blk s H scope C' cl fp
        exact pg_tg CB.hN CB.nd CB.calm CB.hsc CB.hfn h3
      · have CB := C.blk s H scope C' cl fp
        split at h6
        · cases c <;> first
            | (cases h6; done)
            | exact ⟨fun pins s σ H Q I ⟨env, W, g, st, q⟩ => pts_nil.run pins s σ H Q I (Out.ret (α := Bool) (a := true) (k := fun b _ _ H' => Q b H') q st.zin st.pool)⟩
        · exact pts_one (okE TX c _ _ _ noW _ CB h6 k.2.1).t
        · cases h6
      · have CB := C.blk s H scope C' cl fp
        exact (okE TX x _ _ _ noW _ CB h5 k.2.2).v
    · cases h
  | .yes, sc, fn, e, Wx, X, C, h, _ => by
    unfold chk at h
    cases h
  | .lset a, sc, fn, e, Wx, X, C, h, k => by
    unfold chk at h
    split at h
    · simp only [Bool.and_eq_true, decide_eq_true_eq] at h
      obtain ⟨⟨⟨⟨⟨rfl, rfl⟩, h1⟩, h2⟩, h3⟩, h4⟩ := h
      exact OkE.mk1 C.K (pe_lsetD C.K (C.gl h1).1 (C.fr TX (by decide +kernel)) (C.gl h2).1 (C.fr TX (by decide +kernel)) C.calm (okE TX a sc fn _ Wx X C h4 k).v h3) rfl fun _ => rfl
    · cases h
  | .sset a, sc, fn, e, Wx, X, C, h, k => by
    unfold chk at h
    split at h
    · simp only [Bool.and_eq_true, decide_eq_true_eq] at h
      obtain ⟨⟨⟨⟨⟨rfl, rfl⟩, h1⟩, h2⟩, h3⟩, h4⟩ := h
      exact OkE.mk1 C.K (pe_ssetD C.K (C.gl h1).1 (C.fr TX (by decide +kernel)) (C.gl h2).1 (C.fr TX (by decide +kernel)) C.calm (okE TX a sc fn _ Wx X C h4 k).v h3) rfl fun _ => rfl
    · cases h
  | .rev a, sc, fn, e, Wx, X, C, h, k => by
    unfold chk at h
    split at h
    · simp only [Bool.and_eq_true, decide_eq_true_eq] at h
      obtain ⟨rfl, h1⟩ := h
      exact OkE.mk1 C.K (pe_revD C.K (okE TX a sc fn _ Wx X C h1 k).v) rfl fun _ => rfl
    · cases h
  | .rg t as, sc, fn, e, Wx, X, C, h, k => by
    unfold chk at h
    split at h
    · simp only [Bool.and_eq_true, decide_eq_true_eq] at h
      obtain ⟨⟨⟨⟨rfl, rfl⟩, h1⟩, h2⟩, h3⟩ := h
      have pr := okRg TX as sc fn _ Wx X C h3 k
      cases t with
      | true => exact OkE.mk1 C.K (pe_rgT C.calm (C.gl h1).1 (C.fr TX (by decide +kernel)) (pr _ _ (C.gl h2).1) rfl) rfl fun _ => rfl
      | false => exact OkE.mk1 C.K (PE.ofF (pe_rgF C.calm (C.gl h1).1 (C.fr TX (by decide +kernel)) (pr _ _ (C.gl h2).1) rfl)) rfl fun _ => rfl
    · cases h
  | .idm a b, sc, fn, e, Wx, X, C, h, k => by
    unfold chk at h
    split at h
    · simp only [Bool.and_eq_true, decide_eq_true_eq] at h
      obtain ⟨⟨⟨⟨⟨rfl, h1⟩, h2⟩, h3⟩, h4⟩, h5⟩ := h
      exact OkE.mk1 C.K (pe_idmD C.K (okE TX a sc fn _ Wx X C h4 k.1).v (okE TX b sc fn _ Wx X C h5 k.2).v h1 h2 h3) rfl fun _ => rfl
    · cases h
  | .rep a, sc, fn, e, Wx, X, C, h, k => by
    unfold chk at h
    split at h
    · simp only [Bool.and_eq_true, decide_eq_true_eq] at h
      obtain ⟨⟨⟨rfl, h1⟩, h2⟩, h3⟩ := h
      obtain ⟨hg, hs⟩ := C.gd k.1
      exact OkE.mk1 C.K (pe_repD C.K hg C.hv hs (C.gl h1).1 (C.fr TX (by decide +kernel)) (okE TX a sc fn _ Wx X C h3 k.2).v h2) rfl fun _ => rfl
    · cases h
  | .dsp key a, sc, fn, e, Wx, X, C, h, k => by
    unfold chk at h
    split at h
    · rename_i c k1 p1 x p2
      obtain ⟨h1, h2⟩ := all2 h
      have pk : PE X (.Constant c k1 p1) (tC (kV key)) := by
        cases key with
        | inl i =>
          cases c with
          | int j =>
            obtain rfl : i = j := of_decide_eq_true h1
            exact pe_int
          | _ => cases h1
        | inr t =>
          cases c with
          | str u =>
            obtain rfl : t = u := of_decide_eq_true h1
            exact pe_str
          | _ => cases h1
      exact OkE.mk1 C.K (pe_dspD pk (okE TX a sc fn _ Wx X C h2 k).v) rfl fun _ => rfl
    · cases h
  | .callN x n s as, sc, fn, e, Wx, X, C, h, k => by
    unfold chk at h
    split at h
    · rename_i y p1 z zs p2
      simp only [Bool.and_eq_true, decide_eq_true_eq] at h
      obtain ⟨⟨⟨e1, h1⟩, h2⟩, h3⟩ := h
      subst e1
      obtain ⟨lv, hl, kn⟩ := k.1
      obtain ⟨h4, h5⟩ := C.gl h1
      have ha := okEs TX as sc fn _ Wx X C h3 k.2
      have kn' : KnownN X.prog X.w S X.mg X.base lv y n s := by
        rw [C.hP, C.hw, C.hmg, C.hbase]; exact kn
      exact OkE.mk1 C.K (PE.ofF (pe_callN C.K kn' (C.room.mono hl) h4 C.tk ha h5 h2)) rfl fun _ => rfl
    · cases h
  | .call0 x s, sc, fn, e, Wx, X, C, h, k => by
    unfold chk at h
    split at h
    · rename_i y p1 p2
      simp only [Bool.and_eq_true, decide_eq_true_eq] at h
      obtain ⟨e1, h1⟩ := h
      subst e1
      obtain ⟨lv, hl, kn⟩ := k
      obtain ⟨h4, h5⟩ := C.gl h1
      have kn' : Known X.prog X.w S X.mg X.base lv y 0 s := by
        rw [C.hP, C.hw, C.hmg, C.hbase]; exact kn
      exact OkE.mk1 C.K (pe_call0D C.K kn' (C.room.mono hl) h4 C.tk h5) rfl fun _ => rfl
    · cases h
theorem okRg (TX : Txt T S mg) : ∀ (irs : IRs) (sc : Scope) (fn : Str → Bool) (es : List Expr) (Wx : WX) (X : Cx), Cxt P w mg base S lev N sc fn Wx X → chkRg T N sc fn irs es = true → knEs (KnAt P w mg base S lev) irs → ∀ (p pos : Pos), Gl X "range" → PRg X (.Call (.Name "range" p) es [] pos) (tRgA S Wx (evs irs))
  | .cons a .nil, sc, fn, es, Wx, X, C, h, k => by
    intro p pos hg
    unfold chkRg at h
    split at h
    · simp only [Bool.and_eq_true] at h
      exact prg_A1 hg (C.fr TX (by decide +kernel)) (okE TX a sc fn _ Wx X C h.2 k.1).v h.1
    · cases h
  | .cons a (.cons b .nil), sc, fn, es, Wx, X, C, h, k => by
    intro p pos hg
    unfold chkRg at h
    split at h
    · simp only [Bool.and_eq_true] at h
      obtain ⟨⟨⟨h1, h2⟩, h3⟩, h4⟩ := h
      exact prg_A2 hg (C.fr TX (by decide +kernel)) (okE TX a sc fn _ Wx X C h3 k.1).v (okE TX b sc fn _ Wx X C h4 k.2.1).v h1 h2
    · cases h
  | .nil, sc, fn, es, Wx, X, C, h, k => by
    unfold chkRg at h
    cases h
  | .cons a (.cons b (.cons c r)), sc, fn, es, Wx, X, C, h, k => by
    unfold chkRg at h
    cases h
theorem okEs (TX : Txt T S mg) : ∀ (irs : IRs) (sc : Scope) (fn : Str → Bool) (es : List Expr) (Wx : WX) (X : Cx), Cxt P w mg base S lev N sc fn Wx X → chks T N sc fn irs es = true → knEs (KnAt P w mg base S lev) irs → PA X es (tA S Wx (evs irs))
  | .nil, sc, fn, es, Wx, X, C, h, _ => by
    unfold chks at h
    split at h
    · exact pa_nilD
    · cases h
  | .cons a r, sc, fn, es, Wx, X, C, h, k => by
    unfold chks at h
    split at h
    · simp only [Bool.and_eq_true] at h
      obtain ⟨⟨h1, h2⟩, h3⟩ := h
      exact pa_consD (okE TX a sc fn _ Wx X C h2 k.1).v (okEs TX r sc fn _ Wx X C h3 k.2) h1
    · cases h
theorem okI (TX : Txt T S mg) : ∀ (it : IT) (sc : Scope) (fn : Str → Bool) (tg e : Expr) (Wx : WX) (X : Cx), Cxt P w mg base S lev N sc fn Wx X → chkI T N sc fn it tg e = true → knI (KnAt P w mg base S lev) it → PI X tg e (tI S Wx (evi it)) ∧ ∀ x, foldedSetIterable e X.env x = pure x
  | .rng1 a, sc, fn, tg, e, Wx, X, C, h, k => by
    unfold chkI at h
    split at h
    · simp only [Bool.and_eq_true, decide_eq_true_eq] at h
      obtain ⟨⟨⟨rfl, h1⟩, h2⟩, h3⟩ := h
      exact ⟨pi_rng1 (C.gl h1).1 (C.fr TX (by decide +kernel)) (pa_consD (okE TX a sc fn _ Wx X C h3 k).v pa_nilD h2) h2, fun _ => rfl⟩
    · cases h
  | .rng2 a b, sc, fn, tg, e, Wx, X, C, h, k => by
    unfold chkI at h
    split at h
    · simp only [Bool.and_eq_true, decide_eq_true_eq] at h
      obtain ⟨⟨⟨⟨⟨rfl, h1⟩, h2⟩, h3⟩, h4⟩, h5⟩ := h
      exact ⟨pi_rng2 (C.gl h1).1 (C.fr TX (by decide +kernel)) (pa_consD (okE TX a sc fn _ Wx X C h4 k.1).v (pa_consD (okE TX b sc fn _ Wx X C h5 k.2).v pa_nilD h3) h2) h2 h3, fun _ => rfl⟩
    · cases h
  | .seq a, sc, fn, tg, e, Wx, X, C, h, k => by
    unfold chkI at h
    obtain ⟨h1, h2⟩ := all2 h
    exact ⟨pi_seqD C.K (okE TX a sc fn _ Wx X C h2 k).v, folded_plain h1⟩
  | .zip a b, sc, fn, tg, e, Wx, X, C, h, k => by
    unfold chkI at h
    split at h
    · split at h
      · simp only [Bool.and_eq_true, decide_eq_true_eq] at h
        obtain ⟨⟨⟨⟨⟨rfl, h1⟩, h2⟩, h3⟩, h4⟩, h5⟩ := h
        exact ⟨pi_zipD C.K (C.gl h1).1 (C.fr TX (by decide +kernel)) (pa_consD (okE TX a sc fn _ Wx X C h4 k.1).v (pa_consD (okE TX b sc fn _ Wx X C h5 k.2).v pa_nilD h3) h2) h2 h3, fun _ => rfl⟩
      · cases h
    · cases h
  | .enum a, sc, fn, tg, e, Wx, X, C, h, k => by
    unfold chkI at h
    split at h
    · split at h
      · simp only [Bool.and_eq_true, decide_eq_true_eq] at h
        obtain ⟨⟨⟨rfl, h1⟩, h2⟩, h3⟩ := h
        exact ⟨pi_enumD C.K (C.gl h1).1 (C.fr TX (by decide +kernel)) (pa_consD (okE TX a sc fn _ Wx X C h3 k).v pa_nilD h2) h2, fun _ => rfl⟩
      · cases h
    · cases h
end
end
end Dv
end
section
set_option maxHeartbeats 400000
/-! DvK: slots that own their lists; freezing and thawing around an expression. -/
namespace Dv
open PySem PySem.Spec PyProof.Rows L2

/-- where an own slot's object stands -/
def OwnAt (S : Sx) (H0 : Hp) (ex : List Addr) (W : Gh) (H : Hp) (d : D) (v : V) : Prop :=
  ∃ p o, v = .ref p ∧ W.Z p = none ∧ ¬ inPool W p ∧ H p = some o ∧ RepO S W d o ∧ (H0 p = none ∨ p ∈ ex)
structure EnvOk (S : Sx) (W0 : Gh) (H0 : Hp) (ex : List Addr) (F : Gh) (W : Gh) (env : Env) (σ : L2.St) (H : Hp) (g : G) : Prop where
  zin : ZIn W H
  pool : PoolIn W H g
  ext : Ext ex W0 H0 W H
  flo : Le F W
  frz : ∀ (i : Nat) (d : D), env[i]? = some (some (d, false)) → ∃ v, σ[i]? = some (some v) ∧ Rep S W d v
  own : ∀ (i : Nat) (d : D), env[i]? = some (some (d, true)) → ∃ v, σ[i]? = some (some v) ∧ OwnAt S H0 ex W H d v
  apart : ∀ (i j : Nat) (d e : D) (v : V), env[i]? = some (some (d, true)) → env[j]? = some (some (e, true)) → σ[i]? = some (some v) → σ[j]? = some (some v) → i = j
  slf : ∀ (i : Nat) (d : D) (p : Addr), env[i]? = some (some (d, true)) → σ[i]? = some (some (V.ref p)) → p ∈ ex → i = 0
  len : env.length = σ.length
  sl0 : ∀ p ∈ ex, ∀ d : D, env[0]? = some (some (d, true)) → σ[0]? = some (some (V.ref p))
section
variable {S : Sx} {W0 : Gh} {H0 : Hp} {ex : List Addr} {F W W' : Gh} {env : Env} {σ : L2.St} {H H' : Hp} {g g' : G}
theorem RepO.notTup : ∀ (d : D) {o : HO}, RepO S W d o → ∀ vs, o ≠ .tup vs
  | .lst _, _, ⟨_, e, _⟩, _, q => by rw [e] at q; cases q
  | .obj _ _, _, ⟨_, _, e, _⟩, _, q => by rw [e] at q; cases q
  | .dct _, _, ⟨_, e, _⟩, _, q => by rw [e] at q; cases q
/-- the addresses of the own slots of an environment -/
def OwnAd (env : Env) (σ : L2.St) (a : Addr) : Prop := ∃ (i : Nat) (d : D), env[i]? = some (some (d, true)) ∧ σ[i]? = some (some (V.ref a))
open Classical in
noncomputable def frzA (W : Gh) (A : Addr → Prop) (H : Hp) : Gh := { W with Z := fun a => if A a then H a else W.Z a }
open Classical in
noncomputable def thwA (W : Gh) (A : Addr → Prop) : Gh := { W with Z := fun a => if A a then none else W.Z a }
theorem frzA_in {A : Addr → Prop} {a : Addr} (h : A a) : (frzA W A H).Z a = H a := if_pos h
theorem frzA_out {A : Addr → Prop} {a : Addr} (h : ¬ A a) : (frzA W A H).Z a = W.Z a := if_neg h
theorem thwA_in {A : Addr → Prop} {a : Addr} (h : A a) : (thwA W A).Z a = none := if_pos h
theorem thwA_out {A : Addr → Prop} {a : Addr} (h : ¬ A a) : (thwA W A).Z a = W.Z a := if_neg h
/-- the slots without the hidden ones -/
theorem wipeE_at {env : Env} {i : Nat} {d : D} {b : Bool} : ∀ {vs : List Nat}, (wipeE env vs)[i]? = some (some (d, b)) → env[i]? = some (some (d, b)) ∧ i ∉ vs
  | [], h => ⟨h, by simp⟩
  | v :: vs, h => by
    unfold wipeE at h
    by_cases hi : v = i
    · subst hi
      by_cases hv : v < (wipeE env vs).length
      · rw [List.getElem?_set_self hv] at h; cases h
      · rw [List.getElem?_eq_none (by simpa using hv)] at h; cases h
    · rw [List.getElem?_set_ne hi] at h
      obtain ⟨h1, h2⟩ := wipeE_at h
      exact ⟨h1, by simp only [List.mem_cons, not_or]; exact ⟨fun e => hi e.symm, h2⟩⟩
theorem wipeE_keep {env : Env} {i : Nat} : ∀ {vs : List Nat}, i ∉ vs → (wipeE env vs)[i]? = env[i]?
  | [], _ => rfl
  | v :: vs, h => by
    unfold wipeE
    simp only [List.mem_cons, not_or] at h
    rw [List.getElem?_set_ne fun e => h.1 e.symm]
    exact wipeE_keep h.2
theorem EnvOk.ownAd (E : EnvOk S W0 H0 ex F W env σ H g) {hd : List Nat} {a : Addr} (h : OwnAd (wipeE env hd) σ a) : ∃ (i : Nat) (d : D) (o : HO), env[i]? = some (some (d, true)) ∧ i ∉ hd ∧ σ[i]? = some (some (V.ref a)) ∧ W.Z a = none ∧ ¬ inPool W a ∧ H a = some o ∧ RepO S W d o ∧ (H0 a = none ∨ a ∈ ex) := by
  obtain ⟨i, d, h1, h2⟩ := h
  obtain ⟨h3, h4⟩ := wipeE_at h1
  obtain ⟨v, k1, p, o, rfl, k2, k3, k4, k5, k6⟩ := E.own i d h3
  rw [h2] at k1
  cases k1
  exact ⟨i, d, o, h3, h4, h2, k2, k3, k4, k5, k6⟩
/-- all that is not hidden, frozen -/
theorem EnvOk.frozen (E : EnvOk S W0 H0 ex F W env σ H g) (hd : List Nat) : Le W (frzA W (OwnAd (wipeE env hd) σ) H) ∧ StOk S (frzA W (OwnAd (wipeE env hd) σ) H) (wipeE env hd) σ H g := by
  have le : Le W (frzA W (OwnAd (wipeE env hd) σ) H) := ⟨fun a o h => by
    by_cases q : OwnAd (wipeE env hd) σ a
    · rw [frzA_in q]; exact E.zin a o h
    · rw [frzA_out q]; exact h, fun _ h => h⟩
  refine ⟨le, ⟨fun a o h => ?_, ?_, fun i d b h => ?_, by rw [wipeE_length]; exact E.len⟩⟩
  · by_cases q : OwnAd (wipeE env hd) σ a
    · rw [frzA_in q] at h; exact h
    · rw [frzA_out q] at h; exact E.zin a o h
  · have pl := E.pool
    cases g with
    | none => exact pl
    | some s =>
      obtain ⟨a, l, e, ne, z1, z2, h1, h2⟩ := pl
      have no : ∀ x, inPool W x → ¬ OwnAd (wipeE env hd) σ x := fun x hx q => by
        obtain ⟨_, _, _, _, _, _, _, np, _⟩ := E.ownAd q
        exact np hx
      exact ⟨a, l, e, ne, by rw [frzA_out (no a ⟨a, l, e, .inl rfl⟩)]; exact z1, by rw [frzA_out (no l ⟨a, l, e, .inr rfl⟩)]; exact z2, h1, h2⟩
  · obtain ⟨h1, h2⟩ := wipeE_at h
    cases b with
    | false =>
      obtain ⟨v, k1, k2⟩ := E.frz i d h1
      exact ⟨v, k1, k2.mono le⟩
    | true =>
      obtain ⟨v, k1, p, o, rfl, k2, k3, k4, k5, _⟩ := E.own i d h1
      exact ⟨.ref p, k1, RepO.rep d (k5.mono le) (by rw [frzA_in ⟨i, d, h, k1⟩]; exact k4)⟩
mutual
theorem imm_thaw {A : Addr → Prop} (hA : ∀ a vs, W.Z a = some (.tup vs) → ¬ A a) : ∀ (d : D) (v : V), imm d = true → Rep S W d v → Rep S (thwA W A) d v
  | .non, _, _, r => r
  | .bl _, _, _, r => r
  | .int _, _, _, r => r
  | .str _, _, _, r => r
  | .tup ds, v, h, r => by
    obtain ⟨a, vs, e, ha, ra⟩ := r
    exact ⟨a, vs, e, by rw [thwA_out (hA a vs ha)]; exact ha, imms_thaw hA ds vs (by rw [imm] at h; exact h) ra⟩
  | .con _, _, _, r => r
  | .lst _, _, h, _ => by cases h
  | .obj _ _, _, h, _ => by cases h
  | .dct _, _, h, _ => by cases h
  | .pool, _, h, _ => by cases h
  | .cel, _, h, _ => by cases h
  | .scr _, _, h, _ => by cases h
theorem imms_thaw {A : Addr → Prop} (hA : ∀ a vs, W.Z a = some (.tup vs) → ¬ A a) : ∀ (ds : List D) (vs : List V), imms ds = true → Reps S W ds vs → Reps S (thwA W A) ds vs
  | [], [], _, _ => trivial
  | d :: ds, v :: vs, h, r => by
    rw [imms, Bool.and_eq_true] at h
    exact ⟨imm_thaw hA d v h.1 r.1, imms_thaw hA ds vs h.2 r.2⟩
  | [], _ :: _, _, r => r.elim
  | _ :: _, [], _, r => r.elim
end
/-- the flags of all that is not hidden, taken -/
def frzE (hd : List Nat) (env : Env) : Env := env.mapIdx fun i o => if i ∈ hd then o else o.map fun p => (p.1, false)
theorem frzE_length (hd : List Nat) (env : Env) : (frzE hd env).length = env.length := by simp [frzE]
theorem frzE_at {hd : List Nat} {env : Env} {i : Nat} {d : D} {b : Bool} (h : (frzE hd env)[i]? = some (some (d, b))) : (i ∈ hd ∧ env[i]? = some (some (d, b))) ∨ (i ∉ hd ∧ b = false ∧ ∃ c, env[i]? = some (some (d, c))) := by
  unfold frzE at h
  rw [List.getElem?_mapIdx] at h
  cases e : env[i]? with
  | none => rw [e] at h; cases h
  | some o =>
    rw [e] at h
    have h : some (if i ∈ hd then o else o.map fun p => (p.1, false)) = some (some (d, b)) := h
    by_cases q : i ∈ hd
    · rw [if_pos q] at h
      exact .inl ⟨q, by rw [Option.some.inj h]⟩
    · rw [if_neg q] at h
      cases o with
      | none => cases h
      | some p =>
        obtain ⟨x, c⟩ := p
        cases h
        exact .inr ⟨q, rfl, c, rfl⟩
/-- behind an expression: thawed -/
theorem EnvOk.thaw (E : EnvOk S W0 H0 ex F W env σ H g) (hd : List Nat) (e : Ext [] (frzA W (OwnAd (wipeE env hd) σ) H) H W' H') (z : ZIn W' H') (p : PoolIn W' H' g') :
    EnvOk S W0 H0 ex F (thwA W' (OwnAd (wipeE env hd) σ)) env σ H' g' ∧ ∀ a vs, W'.Z a = some (.tup vs) → ¬ OwnAd (wipeE env hd) σ a := by
  obtain ⟨le, st⟩ := E.frozen hd
  generalize hA : OwnAd (wipeE env hd) σ = A at *
  have own : ∀ a, A a → ∃ (i : Nat) (d : D) (o : HO), env[i]? = some (some (d, true)) ∧ i ∉ hd ∧ σ[i]? = some (some (V.ref a)) ∧ W.Z a = none ∧ ¬ inPool W a ∧ H a = some o ∧ RepO S W d o ∧ (H0 a = none ∨ a ∈ ex) := fun a h => E.ownAd (hd := hd) (by rw [hA]; exact h)
  have noTup : ∀ a vs, W'.Z a = some (.tup vs) → ¬ A a := fun a vs h q => by
    obtain ⟨i, d, o, _, _, _, _, _, ho, ro, _⟩ := own a q
    have : W'.Z a = some o := e.le.z a o (by rw [frzA_in q]; exact ho)
    rw [h] at this
    exact RepO.notTup d ro vs (Option.some.inj this).symm
  have le3 : Le W (thwA W' A) := ⟨fun a o h => by
    have na : ¬ A a := fun q => by
      obtain ⟨_, _, _, _, _, _, nz, _⟩ := own a q
      rw [nz] at h; cases h
    rw [thwA_out na]
    exact e.le.z a o (le.z a o h), fun x h => e.le.p x h⟩
  have ext3 : Ext [] W H (thwA W' A) H' := by
    refine ⟨le3, fun a o h np nx => e.keep a o h np nx, e.there, fun a o h => ?_, fun a h => e.newp a h⟩
    by_cases q : A a
    · rw [thwA_in q] at h; cases h
    · rw [thwA_out q] at h
      rcases e.new a o h with k | k
      · rw [frzA_out q] at k; exact .inl k
      · exact .inr k
  refine ⟨⟨fun a o h => ?_, ?_, E.ext.trans ext3.weak, E.flo.trans le3, fun i d h => ?_, fun i d h => ?_, E.apart, E.slf, E.len, E.sl0⟩, noTup⟩
  · by_cases q : A a
    · rw [thwA_in q] at h; cases h
    · rw [thwA_out q] at h; exact z a o h
  · cases g' with
    | none => exact p
    | some s =>
      obtain ⟨a, l, e1, ne, z1, z2, h1, h2⟩ := p
      have none' : ∀ x, W'.Z x = none → (thwA W' A).Z x = none := fun x hx => by
        by_cases q : A x
        · exact thwA_in q
        · rw [thwA_out q]; exact hx
      exact ⟨a, l, e1, ne, none' a z1, none' l z2, h1, h2⟩
  · obtain ⟨v, k1, k2⟩ := E.frz i d h
    exact ⟨v, k1, k2.mono le3⟩
  · obtain ⟨v, k1, p, o, rfl, k2, k3, k4, k5, k6⟩ := E.own i d h
    refine ⟨.ref p, k1, p, o, rfl, ?_, fun q => ?_, e.keep p o k4 k3 (by simp), k5.mono le3, k6⟩
    · by_cases q : A p
      · exact thwA_in q
      · rw [thwA_out q]
        cases r : W'.Z p with
        | none => rfl
        | some u =>
          rcases e.new p u r with k | k
          · rw [frzA_out q, k2] at k; cases k
          · rw [k4] at k; cases k
    · have q : inPool W' p := q
      rcases e.newp p q with k | k
      · exact k3 k
      · rw [k4] at k; cases k
/-- behind an expression: what it could see stays frozen -/
theorem EnvOk.keepFrz (E : EnvOk S W0 H0 ex F W env σ H g) (hd : List Nat) (hx : ex = [] ∨ ∀ (d : D) (v : V), 0 ∉ hd → env[0]? = some (some (d, true)) → False)
    (e : Ext [] (frzA W (OwnAd (wipeE env hd) σ) H) H W' H') (z : ZIn W' H') (p : PoolIn W' H' g') : EnvOk S W0 H0 ex F W' (frzE hd env) σ H' g' := by
  obtain ⟨le, st⟩ := E.frozen hd
  generalize hA : OwnAd (wipeE env hd) σ = A at *
  have own : ∀ a, A a → ∃ (i : Nat) (d : D) (o : HO), env[i]? = some (some (d, true)) ∧ i ∉ hd ∧ σ[i]? = some (some (V.ref a)) ∧ W.Z a = none ∧ ¬ inPool W a ∧ H a = some o ∧ RepO S W d o ∧ (H0 a = none ∨ a ∈ ex) := fun a h => E.ownAd (hd := hd) (by rw [hA]; exact h)
  have new : ∀ a, A a → H0 a = none := fun a q => by
    obtain ⟨i, d, o, h1, h2, h3, _, _, _, _, h4⟩ := own a q
    rcases h4 with h4 | h4
    · exact h4
    · obtain rfl := E.slf i d a h1 h3 h4
      rcases hx with hx | hx
      · rw [hx] at h4; cases h4
      · exact (hx d (.ref a) h2 h1).elim
  have le2 : Le W W' := le.trans e.le
  have ext2 : Ext ex W0 H0 W' H' := by
    refine ⟨E.ext.le.trans le2, fun a o h np nx => ?_, fun a h => e.there a (E.ext.there a h), fun a o h => ?_, fun a h => ?_⟩
    · have h1 := E.ext.keep a o h np nx
      refine e.keep a o h1 (fun q => ?_) (by simp)
      rcases E.ext.newp a q with k | k
      · exact np k
      · rw [h] at k; cases k
    · rcases e.new a o h with k | k
      · by_cases q : A a
        · exact .inr (new a q)
        · rw [frzA_out q] at k; exact E.ext.new a o k
      · refine .inr ?_
        cases q : H0 a with
        | none => rfl
        | some u => exact absurd k (E.ext.there a (by rw [q]; simp))
    · rcases e.newp a h with k | k
      · exact E.ext.newp a k
      · refine .inr ?_
        cases q : H0 a with
        | none => rfl
        | some u => exact absurd k (E.ext.there a (by rw [q]; simp))
  refine ⟨z, p, ext2, E.flo.trans le2, fun i d h => ?_, fun i d h => ?_, fun i j d e v h1 h2 => ?_, fun i d p h1 h2 h3 => ?_, by rw [frzE_length]; exact E.len, fun p hp d h => ?_⟩
  · rcases frzE_at h with ⟨_, h⟩ | ⟨h1, _, c, h2⟩
    · obtain ⟨v, k1, k2⟩ := E.frz i d h
      exact ⟨v, k1, k2.mono le2⟩
    · cases c with
      | false =>
        obtain ⟨v, k1, k2⟩ := E.frz i d h2
        exact ⟨v, k1, k2.mono le2⟩
      | true =>
        obtain ⟨v, k1, p, o, rfl, k2, k3, k4, k5, _⟩ := E.own i d h2
        have hAp : A p := by
          rw [← hA]
          exact ⟨i, d, by rw [wipeE_keep h1]; exact h2, k1⟩
        exact ⟨.ref p, k1, RepO.rep d (k5.mono le2) (e.le.z p o (by rw [frzA_in hAp]; exact k4))⟩
  · rcases frzE_at h with ⟨hi, h⟩ | ⟨_, h, _⟩
    · obtain ⟨v, k1, p, o, rfl, k2, k3, k4, k5, k6⟩ := E.own i d h
      have nA : ¬ A p := fun q => by
        obtain ⟨j, d', o', j1, j2, j3, _⟩ := own p q
        have := E.apart i j d d' _ h j1 k1 j3
        subst this
        exact j2 hi
      have hz1 : (frzA W A H).Z p = none := by rw [frzA_out nA]; exact k2
      obtain ⟨a1, a2, a3⟩ := own_stays e hz1 k3 k4
      exact ⟨.ref p, k1, p, o, rfl, a1, a2, a3, k5.mono le2, k6⟩
    · cases h
  · rcases frzE_at h1 with ⟨_, h1⟩ | ⟨_, h, _⟩
    · rcases frzE_at h2 with ⟨_, h2⟩ | ⟨_, h, _⟩
      · exact E.apart i j d e v h1 h2
      · cases h
    · cases h
  · rcases frzE_at h1 with ⟨_, h1⟩ | ⟨_, h, _⟩
    · exact E.slf i d p h1 h2 h3
    · cases h
  · rcases frzE_at h with ⟨_, h⟩ | ⟨_, h, _⟩
    · exact E.sl0 p hp d h
    · cases h
end
end Dv
end
section
set_option maxHeartbeats 400000
/-! DvL: what statements do with an environment; an expression within a statement. -/
namespace Dv
open PySem PySem.Spec PyProof.Rows L2

inductive Fl where
  | nx (env : Env) | rt (d : D) (env : Env) | bk (env : Env) | ct (env : Env)
inductive RS where
  | ok (f : Fl) (g : G) | err (e : Ex) (env : Env) (g : G) | stuck
abbrev SM := Env → G → RS

def exImm (e : Ex) : Bool := e.fs.all fun p => imm p.2
/-- behind an expression that saw all but hd: kept, or frozen (m: a method, whose slot 0 stays own) -/
def after (m : Bool) (hd : List Nat) (keep : Bool) (env : Env) : Option Env := if keep then some env else if m && !(hd.contains 0) then none else some (frzE hd env)
def errS (e : Ex) (env : Env) (g : G) : RS := if exImm e then .err e env g else .stuck
def onD (m : Bool) (hd : List Nat) (f : Env → M D) (k : D → SM) : SM := fun env g => match f (wipeE env hd) g with
  | .ok d g' => match after m hd (imm d) env with
    | some env' => k d env' g'
    | none => .stuck
  | .err e g' => errS e env g'
  | .stuck => .stuck
def onB (f : Env → M Bool) (k : Bool → SM) : SM := fun env g => match f env g with
  | .ok b g' => k b env g'
  | .err e g' => errS e env g'
  | .stuck => .stuck
def kids : D → Bool
  | .lst ds => imms ds
  | .dct kvs => kvs.all fun p => imm p.2
  | _ => false
def onF (m : Bool) (hd : List Nat) (f : Env → M D) (k : D → SM) : SM := fun env g => match f (wipeE env hd) g with
  | .ok d g' => match after m hd (kids d) env with
    | some env' => k d env' g'
    | none => .stuck
  | .err e g' => errS e env g'
  | .stuck => .stuck
def onI (m : Bool) (hd : List Nat) (keep : Bool) (f : Env → M (List D)) (k : List D → SM) : SM := fun env g => match f (wipeE env hd) g with
  | .ok ds g' => match after m hd keep env with
    | some env' => k ds env' g'
    | none => .stuck
  | .err e g' => errS e env g'
  | .stuck => .stuck

section
variable {S : Sx} {Wx : WX} {W0 : Gh} {H0 : Hp} {ex : List Addr} {F W W' : Gh} {env : Env} {σ : L2.St} {H H' : Hp} {g g' : G} {m : Bool}
/-- what is asked of a statement's outcome -/
def OutS (S : Sx) (Wx : WX) (W0 : Gh) (H0 : Hp) (ex : List Addr) (F : Gh) (r : RS) (D : Ends) : Prop := match r with
  | .ok (.nx env) g => ∀ σ W H, EnvOk S W0 H0 ex F W env σ H g → D.nx σ H
  | .ok (.bk env) g => ∀ σ W H, EnvOk S W0 H0 ex F W env σ H g → D.bk σ H
  | .ok (.ct env) g => ∀ σ W H, EnvOk S W0 H0 ex F W env σ H g → D.ct σ H
  | .ok (.rt d env) g => ∀ v σ W H, EnvOk S W0 H0 ex F W env σ H g → Rep S W d v → D.rt v H
  | .err e env g => ∀ σ W H c dx, EnvOk S W0 H0 ex F W env σ H g → ExRep S W H e c dx → Wx c dx σ H
  | .stuck => False
def tS (S : Sx) (Wx : WX) (W0 : Gh) (H0 : Hp) (ex : List Addr) (F : Gh) (s : SM) : TS := fun D σ H => ∃ env W g, EnvOk S W0 H0 ex F W env σ H g ∧ OutS S Wx W0 H0 ex F (s env g) D
theorem EnvOk.noEx (E : EnvOk S W0 H0 ex F W env σ H g) (hm : m = false → ex = []) {hd : List Nat} (h : (m && !(hd.contains 0)) = false) : ex = [] ∨ ∀ (d : D) (v : V), 0 ∉ hd → env[0]? = some (some (d, true)) → False := by
  cases m with
  | false => exact .inl (hm rfl)
  | true =>
    simp only [Bool.true_and, Bool.not_eq_false'] at h
    exact .inr fun _ _ q _ => q (by simpa using h)
theorem after_cases {hd : List Nat} {keep : Bool} {env' : Env} (h : after m hd keep env = some env') : (keep = true ∧ env' = env) ∨ ((m && !(hd.contains 0)) = false ∧ env' = frzE hd env) := by
  unfold after at h
  split at h
  · rename_i q
    cases h
    exact .inl ⟨q, rfl⟩
  · split at h
    · cases h
    · rename_i q
      cases h
      exact .inr ⟨by simpa using q, rfl⟩
theorem exRep_thaw {A : Addr → Prop} {e : Ex} {c : Value} {dx : Option Addr} (hA : ∀ a vs, W.Z a = some (.tup vs) → ¬ A a) (hi : exImm e = true) (r : ExRep S W H e c dx) : ExRep S (thwA W A) H e c dx := by
  refine ⟨r.1, ?_⟩
  rcases r.2 with h | ⟨p, vfs, h0, h1, h2, h3⟩
  · exact .inl h
  · refine .inr ⟨p, vfs, h0, h1, h2, ?_⟩
    have key : ∀ (fs : List (Str × D)) (vfs : List (Str × V)), fs.all (fun p => imm p.2) = true → RepF S W fs vfs → RepF S (thwA W A) fs vfs := by
      intro fs
      induction fs with
      | nil => intro vfs _ h; cases vfs <;> exact h
      | cons p fs ih =>
        intro vfs hh h
        obtain ⟨f, d⟩ := p
        cases vfs with
        | nil => exact h.elim
        | cons q vfs =>
          obtain ⟨f', v⟩ := q
          simp only [List.all_cons, Bool.and_eq_true] at hh
          exact ⟨h.1, imm_thaw hA d v hh.1 h.2.1, ih vfs hh.2 h.2.2⟩
    exact key _ _ hi h3
/-- an error out of an expression -/
theorem EnvOk.err (E : EnvOk S W0 H0 ex F W env σ H g) {hd : List Nat} {e : Ex} {D : Ends} (q : OutS S Wx W0 H0 ex F (errS e env g') D) :
    ∀ W' H' c dx, Ext [] (frzA W (OwnAd (wipeE env hd) σ) H) H W' H' → ZIn W' H' → PoolIn W' H' g' → ExRep S W' H' e c dx → Wx c dx σ H' := by
  intro W' H' c dx e' z' p' r'
  unfold errS at q
  split at q
  · rename_i hi
    obtain ⟨E', noT⟩ := E.thaw hd e' z' p'
    exact q σ _ H' c dx E' (exRep_thaw noT hi r')
  · exact q.elim
/-- a value within a statement -/
theorem EnvOk.onD (E : EnvOk S W0 H0 ex F W env σ H g) (hm : m = false → ex = []) {hd : List Nat} {f : Env → M D} {k : D → SM} {Dn : Ends} (q : OutS S Wx W0 H0 ex F (onD m hd f k env g) Dn) :
    tD S Wx f σ H fun v H' => ∃ d env' W' g', EnvOk S W0 H0 ex F W' env' σ H' g' ∧ Rep S W' d v ∧ OutS S Wx W0 H0 ex F (k d env' g') Dn ∧ (imm d = true → env' = env) ∧ after m hd (imm d) env = some env' := by
  obtain ⟨le, st⟩ := E.frozen hd
  refine ⟨wipeE env hd, _, g, st, ?_⟩
  unfold Dv.onD at q
  cases e : f (wipeE env hd) g with
  | stuck => rw [e] at q; exact q.elim
  | err x g1 => rw [e] at q; exact E.err q
  | ok d g1 =>
    rw [e] at q
    intro W' H' e' z' p' v r'
    replace q : OutS S Wx W0 H0 ex F (match after m hd (imm d) env with | some env' => k d env' g1 | none => .stuck) Dn := q
    cases ha : after m hd (imm d) env with
    | none => rw [ha] at q; exact q.elim
    | some env' =>
      rw [ha] at q
      rcases after_cases ha with ⟨h1, rfl⟩ | ⟨h1, rfl⟩
      · obtain ⟨E', noT⟩ := E.thaw hd e' z' p'
        exact ⟨d, _, _, g1, E', imm_thaw noT d v h1 r', q, fun _ => rfl, ha⟩
      · refine ⟨d, _, W', g1, E.keepFrz hd (E.noEx hm h1) e' z' p', r', q, fun hi => ?_, ha⟩
        unfold after at ha
        rw [if_pos hi] at ha
        exact (Option.some.inj ha).symm
/-- a test within a statement -/
theorem EnvOk.onB (E : EnvOk S W0 H0 ex F W env σ H g) {f : Env → M Bool} {k : Bool → SM} {Dn : Ends} (q : OutS S Wx W0 H0 ex F (onB f k env g) Dn) :
    tB S Wx f σ H fun b H' => ∃ W' g', EnvOk S W0 H0 ex F W' env σ H' g' ∧ OutS S Wx W0 H0 ex F (k b env g') Dn := by
  obtain ⟨le, st⟩ := E.frozen []
  refine ⟨env, _, g, st, ?_⟩
  unfold Dv.onB at q
  cases e : f env g with
  | stuck => rw [e] at q; exact q.elim
  | err x g1 => rw [e] at q; exact E.err (hd := []) q
  | ok d g1 =>
    rw [e] at q
    intro W' H' e' z' p'
    obtain ⟨E', _⟩ := E.thaw [] e' z' p'
    exact ⟨_, g1, E', q⟩
theorem kids_thaw {A : Addr → Prop} (hA : ∀ a vs, W.Z a = some (.tup vs) → ¬ A a) {d : D} {o : HO} (h : kids d = true) (r : RepO S W d o) : RepO S (thwA W A) d o := by
  cases d with
  | lst ds =>
    obtain ⟨vs, e, r⟩ := r
    exact ⟨vs, e, imms_thaw hA ds vs h r⟩
  | dct kvs =>
    obtain ⟨kv', e, r⟩ := r
    refine ⟨kv', e, ?_⟩
    have key : ∀ (ks : List (D × D)) (vs : List (Key × V)), (ks.all fun p => imm p.2) = true → RepK S W ks vs → RepK S (thwA W A) ks vs := by
      intro ks
      induction ks with
      | nil => intro vs _ h; cases vs <;> exact h
      | cons p ks ih =>
        intro vs hh h
        obtain ⟨f, d⟩ := p
        cases vs with
        | nil => exact h.elim
        | cons q vs =>
          obtain ⟨f', v⟩ := q
          simp only [List.all_cons, Bool.and_eq_true] at hh
          exact ⟨h.1, imm_thaw hA d v hh.1 h.2.1, ih vs hh.2 h.2.2⟩
    exact key kvs kv' h r
  | _ => cases h
/-- a new object within a statement -/
theorem EnvOk.onF (E : EnvOk S W0 H0 ex F W env σ H g) (hm : m = false → ex = []) {hd : List Nat} {f : Env → M D} {k : D → SM} {Dn : Ends} (q : OutS S Wx W0 H0 ex F (onF m hd f k env g) Dn) :
    tF S Wx f σ H fun v H' => ∃ d env' W' g' p o, v = .ref p ∧ EnvOk S W0 H0 ex F W' env' σ H' g' ∧ H p = none ∧ W'.Z p = none ∧ ¬ inPool W' p ∧ H' p = some o ∧ RepO S W' d o ∧ OutS S Wx W0 H0 ex F (k d env' g') Dn ∧ (∀ (i : Nat) (e : D), env'[i]? = some (some (e, true)) → σ[i]? ≠ some (some (V.ref p))) ∧ H0 p = none := by
  obtain ⟨le, st⟩ := E.frozen hd
  refine ⟨wipeE env hd, _, g, st, ?_⟩
  unfold Dv.onF at q
  cases e : f (wipeE env hd) g with
  | stuck => rw [e] at q; exact q.elim
  | err x g1 => rw [e] at q; exact E.err q
  | ok d g1 =>
    rw [e] at q
    intro W' H' e' z' p' p o hp hz np ho ro
    replace q : OutS S Wx W0 H0 ex F (match after m hd (kids d) env with | some env' => k d env' g1 | none => .stuck) Dn := q
    have new0 : H0 p = none := by
      cases r : H0 p with
      | none => rfl
      | some u => exact absurd hp (E.ext.there p (by rw [r]; simp))
    have far : ∀ (i : Nat) (e : D), env[i]? = some (some (e, true)) → σ[i]? ≠ some (some (V.ref p)) := fun i e h1 h2 => by
      obtain ⟨v, k1, p2, o2, rfl, _, _, k4, _⟩ := E.own i e h1
      rw [h2] at k1
      cases k1
      rw [hp] at k4; cases k4
    cases ha : after m hd (kids d) env with
    | none => rw [ha] at q; exact q.elim
    | some env' =>
      rw [ha] at q
      rcases after_cases ha with ⟨h1, rfl⟩ | ⟨h1, rfl⟩
      · obtain ⟨E', noT⟩ := E.thaw hd e' z' p'
        refine ⟨d, _, _, g1, p, o, rfl, E', hp, ?_, np, ho, kids_thaw noT h1 ro, q, far, new0⟩
        by_cases hA : OwnAd (wipeE env' hd) σ p
        · exact thwA_in hA
        · rw [thwA_out hA]; exact hz
      · refine ⟨d, _, W', g1, p, o, rfl, E.keepFrz hd (E.noEx hm h1) e' z' p', hp, hz, np, ho, ro, q, fun i e h => ?_, new0⟩
        rcases frzE_at h with ⟨_, h⟩ | ⟨_, h, _⟩
        · exact far i e h
        · cases h
/-- a thing walked within a statement -/
theorem EnvOk.onI (E : EnvOk S W0 H0 ex F W env σ H g) (hm : m = false → ex = []) {hd : List Nat} {f : Env → M (List D)} {k : List D → SM} {Dn : Ends} (q : OutS S Wx W0 H0 ex F (onI m hd false f k env g) Dn) :
    tI S Wx f σ H fun J H' => ∃ ds env' W' g', EnvOk S W0 H0 ex F W' env' σ H' g' ∧ ItOk S W' ds J ∧ OutS S Wx W0 H0 ex F (k ds env' g') Dn := by
  obtain ⟨le, st⟩ := E.frozen hd
  refine ⟨wipeE env hd, _, g, st, ?_⟩
  unfold Dv.onI at q
  cases e : f (wipeE env hd) g with
  | stuck => rw [e] at q; exact q.elim
  | err x g1 => rw [e] at q; exact E.err q
  | ok ds g1 =>
    rw [e] at q
    intro W' H' e' z' p' J hJ
    replace q : OutS S Wx W0 H0 ex F (match after m hd false env with | some env' => k ds env' g1 | none => .stuck) Dn := q
    cases ha : after m hd false env with
    | none => rw [ha] at q; exact q.elim
    | some env' =>
      rw [ha] at q
      rcases after_cases ha with ⟨h1, rfl⟩ | ⟨h1, rfl⟩
      · cases h1
      · exact ⟨ds, _, W', g1, E.keepFrz hd (E.noEx hm h1) e' z' p', hJ, q⟩
/-- a range walked within a statement -/
def tIr (S : Sx) (Wx : WX) (f : Env → M (List D)) : TI := fun σ H R => ∃ env W g, StOk S W env σ H g ∧ Out S Wx σ W H (f env g) fun ds _ W' H' => ∀ J, (∀ W2, ItOk S W2 ds J) → R J H'
theorem EnvOk.onR (E : EnvOk S W0 H0 ex F W env σ H g) {f : Env → M (List D)} {k : List D → SM} {Dn : Ends} (q : OutS S Wx W0 H0 ex F (Dv.onI m [] true f k env g) Dn) :
    tIr S Wx f σ H fun J H' => ∃ ds W' g', EnvOk S W0 H0 ex F W' env σ H' g' ∧ (∀ W2, ItOk S W2 ds J) ∧ OutS S Wx W0 H0 ex F (k ds env g') Dn := by
  obtain ⟨le, st⟩ := E.frozen []
  refine ⟨env, _, g, st, ?_⟩
  unfold Dv.onI at q
  replace q : OutS S Wx W0 H0 ex F (match f env g with | .ok ds g' => k ds env g' | .err e g' => errS e env g' | .stuck => .stuck) Dn := q
  cases e : f env g with
  | stuck => rw [e] at q; exact q.elim
  | err x g1 => rw [e] at q; exact E.err (hd := []) q
  | ok ds g1 =>
    rw [e] at q
    intro W' H' e' z' p' J hJ
    obtain ⟨E', _⟩ := E.thaw [] e' z' p'
    exact ⟨ds, _, g1, E', hJ, q⟩

/-! ### slots stored -/
theorem EnvOk.setF (E : EnvOk S W0 H0 ex F W env σ H g) {i : Nat} {d : D} {v : V} (r : Rep S W d v) : EnvOk S W0 H0 ex F W (env.set i (some (d, false))) (σ.set i (some v)) H g := by
  have old : ∀ (j : Nat) (e : D) (b : Bool), (env.set i (some (d, false)))[j]? = some (some (e, b)) → (i = j ∧ e = d ∧ b = false ∧ (σ.set i (some v))[j]? = some (some v)) ∨ (i ≠ j ∧ env[j]? = some (some (e, b)) ∧ (σ.set i (some v))[j]? = σ[j]?) := fun j e b h => by
    by_cases hj : i = j
    · subst hj
      by_cases hi : i < env.length
      · rw [List.getElem?_set_self hi] at h
        cases h
        exact .inl ⟨rfl, rfl, rfl, List.getElem?_set_self (by rw [← E.len]; exact hi)⟩
      · rw [List.getElem?_eq_none (by simpa using hi)] at h
        cases h
    · rw [List.getElem?_set_ne hj] at h
      exact .inr ⟨hj, h, List.getElem?_set_ne hj⟩
  refine ⟨E.zin, E.pool, E.ext, E.flo, fun j e h => ?_, fun j e h => ?_, fun j k e e' u h1 h2 h3 h4 => ?_, fun j e p h1 h2 h3 => ?_, by simpa using E.len, fun p hp e h => ?_⟩
  · rcases old j e false h with ⟨_, rfl, _, k⟩ | ⟨_, h, k⟩
    · exact ⟨v, k, r⟩
    · rw [k]; exact E.frz j e h
  · rcases old j e true h with ⟨_, _, h, _⟩ | ⟨_, h, k⟩
    · cases h
    · rw [k]; exact E.own j e h
  · rcases old j e true h1 with ⟨_, _, h, _⟩ | ⟨_, h1, k1⟩
    · cases h
    · rcases old k e' true h2 with ⟨_, _, h, _⟩ | ⟨_, h2, k2⟩
      · cases h
      · rw [k1] at h3; rw [k2] at h4
        exact E.apart j k e e' u h1 h2 h3 h4
  · rcases old j e true h1 with ⟨_, _, h, _⟩ | ⟨_, h1, k1⟩
    · cases h
    · rw [k1] at h2; exact E.slf j e p h1 h2 h3
  · rcases old 0 e true h with ⟨_, _, h, _⟩ | ⟨_, h, k⟩
    · cases h
    · rw [k]; exact E.sl0 p hp e h
theorem EnvOk.setAll : ∀ {is : List Nat} {ds : List D} {vs : List V} {env : Env} {σ : L2.St}, EnvOk S W0 H0 ex F W env σ H g → Reps S W ds vs → EnvOk S W0 H0 ex F W (setAll is ds env) (gAll is vs σ) H g
  | [], _, _, env, σ, E, _ => by
    unfold Dv.setAll gAll
    exact E
  | i :: is, [], [], env, σ, E, _ => by
    unfold Dv.setAll gAll
    exact E
  | i :: is, d :: ds, v :: vs, env, σ, E, r => EnvOk.setAll (is := is) (E.setF r.1) r.2
  | _ :: _, [], _ :: _, _, _, _, r => r.elim
  | _ :: _, _ :: _, [], _, _, _, r => r.elim
theorem EnvOk.setTg (E : EnvOk S W0 H0 ex F W env σ H g) {t : Tg} {d : D} {v : V} {env' : Env} {Q : L2.St → Hp → Prop} (h : setTg t d env = some env') (r : Rep S W d v) (k : ∀ σ', EnvOk S W0 H0 ex F W env' σ' H g → Q σ' H) : gTg S.K t v σ H Q := by
  cases t with
  | one i =>
    cases h
    exact k _ (E.setF r)
  | many is =>
    unfold Dv.setTg at h
    simp only at h
    split at h
    · rename_i ds
      split at h
      · rename_i hl
        cases h
        obtain ⟨a, vs, rfl, ha, ra⟩ := r
        exact ⟨a, vs, rfl, Rep.sqT E.zin ha, by rw [← ra.length, hl], k _ (E.setAll ra)⟩
      · cases h
    · cases h
/-- a new own object in a slot -/
theorem EnvOk.setO (E : EnvOk S W0 H0 ex F W env σ H g) {i : Nat} {d : D} {p : Addr} {o : HO} (hz : W.Z p = none) (np : ¬ inPool W p) (ho : H p = some o) (ro : RepO S W d o) (far : ∀ (j : Nat) (e : D), env[j]? = some (some (e, true)) → σ[j]? ≠ some (some (V.ref p))) (new : H0 p = none) (nex : p ∉ ex) (h0 : ex = [] ∨ i ≠ 0) :
    EnvOk S W0 H0 ex F W (env.set i (some (d, true))) (σ.set i (some (V.ref p))) H g := by
  have old : ∀ (j : Nat) (e : D) (b : Bool), (env.set i (some (d, true)))[j]? = some (some (e, b)) → (i = j ∧ e = d ∧ b = true ∧ (σ.set i (some (V.ref p)))[j]? = some (some (V.ref p))) ∨ (i ≠ j ∧ env[j]? = some (some (e, b)) ∧ (σ.set i (some (V.ref p)))[j]? = σ[j]?) := fun j e b h => by
    by_cases hj : i = j
    · subst hj
      by_cases hi : i < env.length
      · rw [List.getElem?_set_self hi] at h
        cases h
        exact .inl ⟨rfl, rfl, rfl, List.getElem?_set_self (by rw [← E.len]; exact hi)⟩
      · rw [List.getElem?_eq_none (by simpa using hi)] at h
        cases h
    · rw [List.getElem?_set_ne hj] at h
      exact .inr ⟨hj, h, List.getElem?_set_ne hj⟩
  refine ⟨E.zin, E.pool, E.ext, E.flo, fun j e h => ?_, fun j e h => ?_, fun j k e e' u h1 h2 h3 h4 => ?_, fun j e q h1 h2 h3 => ?_, by simpa using E.len, fun q hq e h => ?_⟩
  · rcases old j e false h with ⟨_, _, h, _⟩ | ⟨_, h, k⟩
    · cases h
    · rw [k]; exact E.frz j e h
  · rcases old j e true h with ⟨_, rfl, _, k⟩ | ⟨_, h, k⟩
    · exact ⟨.ref p, k, p, o, rfl, hz, np, ho, ro, .inl new⟩
    · rw [k]; exact E.own j e h
  · rcases old j e true h1 with ⟨r1, _, _, k1⟩ | ⟨_, h1, k1⟩
    · rcases old k e' true h2 with ⟨r2, _⟩ | ⟨_, h2, k2⟩
      · rw [← r1, ← r2]
      · rw [k1] at h3; rw [k2] at h4
        cases h3
        exact absurd h4 (far k e' h2)
    · rcases old k e' true h2 with ⟨r2, _, _, k2⟩ | ⟨_, h2, k2⟩
      · rw [k1] at h3; rw [k2] at h4
        cases h4
        exact absurd h3 (far j e h1)
      · rw [k1] at h3; rw [k2] at h4
        exact E.apart j k e e' u h1 h2 h3 h4
  · rcases old j e true h1 with ⟨_, _, _, k1⟩ | ⟨_, h1, k1⟩
    · rw [k1] at h2
      cases h2
      exact absurd h3 nex
    · rw [k1] at h2; exact E.slf j e q h1 h2 h3
  · rcases old 0 e true h with ⟨h, _⟩ | ⟨_, h, k⟩
    · rcases h0 with h0 | h0
      · rw [h0] at hq; cases hq
      · exact absurd h h0
    · rw [k]; exact E.sl0 q hq e h
/-- an own object changed -/
theorem EnvOk.write (E : EnvOk S W0 H0 ex F W env σ H g) {i : Nat} {d d' : D} {p : Addr} {o' : HO} (he : env[i]? = some (some (d, true))) (hs : σ[i]? = some (some (V.ref p))) (ro : RepO S W d' o') :
    EnvOk S W0 H0 ex F W (env.set i (some (d', true))) σ (upd H p o') g := by
  obtain ⟨v, k1, p2, o, rfl, k2, k3, k4, k5, k6⟩ := E.own i d he
  rw [hs] at k1
  cases k1
  have hi : i < env.length := (List.getElem?_eq_some_iff.mp he).1
  have old : ∀ (j : Nat) (e : D) (b : Bool), (env.set i (some (d', true)))[j]? = some (some (e, b)) → (i = j ∧ e = d' ∧ b = true) ∨ (i ≠ j ∧ env[j]? = some (some (e, b))) := fun j e b h => by
    by_cases hj : i = j
    · subst hj
      rw [List.getElem?_set_self hi] at h
      cases h
      exact .inl ⟨rfl, rfl, rfl⟩
    · rw [List.getElem?_set_ne hj] at h
      exact .inr ⟨hj, h⟩
  have ext : Ext ex W0 H0 W (upd H p o') := by
    refine ⟨E.ext.le, fun a u h np nx => ?_, fun a h => ?_, E.ext.new, E.ext.newp⟩
    · have : a ≠ p := fun q => by
        subst q
        rcases k6 with k6 | k6
        · rw [h] at k6; cases k6
        · exact nx k6
      rw [upd_ne this]
      exact E.ext.keep a u h np nx
    · by_cases q : a = p
      · subst q; rw [upd_same]; simp
      · rw [upd_ne q]; exact E.ext.there a h
  refine ⟨E.zin.grow k2, E.pool.grow k3, ext, E.flo, fun j e h => ?_, fun j e h => ?_, fun j k e e' u h1 h2 h3 h4 => ?_, fun j e q h1 h2 h3 => ?_, by simpa using E.len, fun q hq e h => ?_⟩
  · rcases old j e false h with ⟨_, _, h⟩ | ⟨_, h⟩
    · cases h
    · exact E.frz j e h
  · rcases old j e true h with ⟨rfl, rfl, _⟩ | ⟨hj, h⟩
    · exact ⟨.ref p, hs, p, o', rfl, k2, k3, upd_same, ro, k6⟩
    · obtain ⟨v, j1, p2, o2, rfl, j2, j3, j4, j5, j6⟩ := E.own j e h
      have : p2 ≠ p := fun q => by
        subst q
        exact hj (E.apart i j d e _ he h hs j1)
      exact ⟨.ref p2, j1, p2, o2, rfl, j2, j3, by rw [upd_ne this]; exact j4, j5, j6⟩
  · rcases old j e true h1 with ⟨r1, _⟩ | ⟨_, h1⟩
    · rcases old k e' true h2 with ⟨r2, _⟩ | ⟨hk, h2⟩
      · rw [← r1, ← r2]
      · subst r1
        exact E.apart _ k d e' u he h2 h3 h4
    · rcases old k e' true h2 with ⟨r2, _⟩ | ⟨_, h2⟩
      · subst r2
        exact E.apart j _ e d u h1 he h3 h4
      · exact E.apart j k e e' u h1 h2 h3 h4
  · rcases old j e true h1 with ⟨r1, _⟩ | ⟨_, h1⟩
    · subst r1
      exact E.slf _ d q he h2 h3
    · exact E.slf j e q h1 h2 h3
  · rcases old 0 e true h with ⟨rfl, _⟩ | ⟨_, h⟩
    · exact E.sl0 q hq _ he
    · exact E.sl0 q hq e h
end
end Dv
end
section
set_option maxHeartbeats 400000
/-! DvM: statements, one rule a kind. -/
namespace Dv
open PySem PySem.Spec PyProof.Rows L2

def sNext : SM := fun env g => .ok (.nx env) g
def sDrop (m : Bool) (hd : List Nat) (f : Env → M D) : SM := onD m hd f fun _ => sNext
def sSet (m : Bool) (hd : List Nat) (t : Tg) (f : Env → M D) : SM := onD m hd f fun d env g => match setTg t d env with
  | some env' => .ok (.nx env') g
  | none => .stuck
def sOwn (m : Bool) (hd : List Nat) (i : Nat) (f : Env → M D) : SM := onF m hd f fun d env g => if (m && i == 0) = true then .stuck else .ok (.nx (env.set i (some (d, true)))) g
def sRet (m : Bool) (hd : List Nat) (f : Env → M D) : SM := onD m hd f fun d env g => .ok (.rt d env) g
def sRetN : SM := fun env g => .ok (.rt .non env) g
def sIf (c : Env → M Bool) (a b : SM) : SM := onB c fun t => if t = true then a else b
def sSeq (a b : SM) : SM := fun env g => match a env g with
  | .ok (.nx e) g' => b e g'
  | r => r
def ownL (env : Env) (i : Nat) : Option (List D) := match env[i]? with
  | some (some (.lst ds, true)) => some ds
  | _ => none
def sApp (m : Bool) (hd : List Nat) (i : Nat) (f : Env → M D) : SM := fun env g => match ownL env i with
  | none => .stuck
  | some _ => onD m hd f (fun d env g => match ownL env i with
    | some ds => if ds.length < sizeLine then .ok (.nx (env.set i (some (.lst (ds ++ [d]), true)))) g else .stuck
    | none => .stuck) env g
def sExt (m : Bool) (hd : List Nat) (i : Nat) (f : Env → M D) : SM := fun env g => match ownL env i with
  | none => .stuck
  | some _ => onD m hd f (fun d env g => match d with
    | .lst es => match ownL env i with
      | some ds => if ds.length + es.length ≤ sizeLine then .ok (.nx (env.set i (some (.lst (ds ++ es), true)))) g else .stuck
      | none => .stuck
    | .tup es => match ownL env i with
      | some ds => if ds.length + es.length ≤ sizeLine then .ok (.nx (env.set i (some (.lst (ds ++ es), true)))) g else .stuck
      | none => .stuck
    | _ => .stuck) env g
def forGo (t : Tg) (b : SM) : List D → SM
  | [] => sNext
  | d :: r => fun env g => match setTg t d env with
    | none => .stuck
    | some env1 => match b env1 g with
      | .ok (.nx e) g' => forGo t b r e g'
      | .ok (.ct e) g' => forGo t b r e g'
      | .ok (.bk e) g' => .ok (.nx e) g'
      | r => r
def sFor (m : Bool) (hd : List Nat) (t : Tg) (f : Env → M (List D)) (b : SM) : SM := onI m hd false f fun ds => forGo t b ds
def sForR (m : Bool) (t : Tg) (f : Env → M (List D)) (b : SM) : SM := onI m [] true f fun ds => forGo t b ds
def whlGo (c : Env → M Bool) (b : SM) : Nat → SM
  | 0 => fun _ _ => .stuck
  | n + 1 => onB c fun t => if t = true then (fun env g => match b env g with
      | .ok (.nx e) g' => whlGo c b n e g'
      | .ok (.ct e) g' => whlGo c b n e g'
      | .ok (.bk e) g' => .ok (.nx e) g'
      | r => r) else sNext
def sRaise (c : Nat) : SM := fun env g => .err ⟨c, []⟩ env g
def sBrk : SM := fun env g => .ok (.bk env) g
def sCnt : SM := fun env g => .ok (.ct env) g
def intO (op : Operator) : Option (Int → Int → Int) := match op with
  | .Add => some fun i j => i + j
  | .Sub => some fun i j => i - j
  | _ => none
def augO (op : Operator) (x y : Int) : Option D := match op with
  | .Pow => none
  | .FloorDiv => none
  | _ => binO op (.int x) (.int y)
def sAug (m : Bool) (hd : List Nat) (i : Nat) (op : Operator) (f : Env → M D) : SM := fun env g => match env[i]? with
  | some (some (.int x, false)) => onD m hd f (fun d env g => match d with
    | .int y => match augO op x y with
      | some r => .ok (.nx (env.set i (some (r, false)))) g
      | none => .stuck
    | _ => .stuck) env g
  | _ => .stuck
def notComp : Expr → Bool
  | .ListComp .. => false
  | .SetComp .. => false
  | .DictComp .. => false
  | _ => true
theorem noSwap {e : Expr} {t : Option Expr} {l : Nat} {env : PySem.Env} (h : notComp e = true) : swapsWith e t l env = pure false := by
  cases e <;> first | rfl | cases h
def notDisp : Expr → Bool
  | .Tuple .. => false
  | .List .. => false
  | _ => true
theorem noStores {es : List Expr} {k : Nat} {p : Pos} {e : Expr} {env : PySem.Env} (h : notDisp e = true) : swappedStores [.Tuple es k p] e env = pure none := by
  cases e <;> first | rfl | cases h

section
variable {S : Sx} {Wx : WX} {W0 : Gh} {H0 : Hp} {ex : List Addr} {F : Gh} {m : Bool} {X : Cx}
theorem ps_dropD (hm : m = false → ex = []) {hd : List Nat} {e : Expr} {f : Env → M D} {pos : Pos} (h : PE X e (tD S Wx f)) (hc : notComp e = true) : PS X (.Expr e pos) (tS S Wx W0 H0 ex F (sDrop m hd f)) :=
  impS (ps_expr h (noSwap hc)) fun D σ H ⟨env, W, g, E, q⟩ => by
    obtain ⟨env1, W1, g1, st, q1⟩ := E.onD hm q
    exact ⟨env1, W1, g1, st, q1.mono fun d g2 W2 H2 _ _ _ q2 v rv => by
      obtain ⟨d', env', W', g', E', _, q3, _⟩ := q2 v rv
      exact q3 _ _ _ E'⟩
theorem ps_setD (hm : m = false → ex = []) {hd : List Nat} {i : Nat} {x : Str} {e : Expr} {f : Env → M D} {pos pos' : Pos} (hN : X.N.Nodup) (hi : X.N[i]? = some x) (hx : L2.Loc X.env.scope x) (hf : X.fn x = true ∨ X.env.scope.names.lookup x = some .local)
    (h : PE X e (tD S Wx f)) (hc : notComp e = true) : PS X (.Assign [.Name x pos'] e pos) (tS S Wx W0 H0 ex F (sSet m hd (.one i) f)) :=
  impS (ps_set hN hi hx h (noSwap hc) hf) fun D σ H ⟨env, W, g, E, q⟩ => by
    obtain ⟨env1, W1, g1, st, q1⟩ := E.onD hm q
    exact ⟨env1, W1, g1, st, q1.mono fun d g2 W2 H2 _ _ _ q2 v rv => by
      obtain ⟨d', env', W', g', E', r', q3, _⟩ := q2 v rv
      exact q3 _ _ _ (E'.setF r')⟩
theorem ps_setT (hm : m = false → ex = []) (K : X.K = S.K) {hd : List Nat} {t : Tg} {es : List Expr} {k : Nat} {p : Pos} {e : Expr} {f : Env → M D} {pos : Pos} (hg : PG X (.Tuple es k p) (gTg X.K t))
    (h : PE X e (tD S Wx f)) (hc : notComp e = true) (hd' : notDisp e = true) : PS X (.Assign [.Tuple es k p] e pos) (tS S Wx W0 H0 ex F (sSet m hd t f)) :=
  impS (ps_asg h hg (by unfold swapsWithSole; exact noSwap hc) (noStores hd') rfl) fun D σ H ⟨env, W, g, E, q⟩ => by
    obtain ⟨env1, W1, g1, st, q1⟩ := E.onD hm q
    exact ⟨env1, W1, g1, st, q1.mono fun d g2 W2 H2 _ _ _ q2 v rv => by
      obtain ⟨d', env', W', g', E', r', q3, _⟩ := q2 v rv
      cases hs : setTg t d' env' with
      | none => rw [hs] at q3; exact q3.elim
      | some env2 =>
        rw [hs] at q3
        rw [K]
        exact E'.setTg hs r' fun σ' E2 => q3 _ _ _ E2⟩
theorem own_rd (hm : m = false → ex = []) {hd : List Nat} {i : Nat} {f : Env → M D} (hx : ∀ p ∈ ex, H0 p ≠ none) : ∀ (D : Ends) (σ : L2.St) (H : Hp), tS S Wx W0 H0 ex F (sOwn m hd i f) D σ H → tAsg (tF S Wx f) (gName i) D σ H := fun D σ H ⟨env, W, g, E, q⟩ => by
  obtain ⟨env1, W1, g1, st, q1⟩ := E.onF hm q
  refine ⟨env1, W1, g1, st, q1.mono fun d g2 W2 H2 _ _ _ q2 p o hp hz np ho ro => ?_⟩
  obtain ⟨d', env', W', g', p', o', e1, E', hp', hz', np', ho', ro', q3, far, new⟩ := q2 p o hp hz np ho ro
  cases e1
  by_cases h0 : (m && i == 0) = true
  · rw [if_pos h0] at q3; exact q3.elim
  · rw [if_neg h0] at q3
    refine q3 _ _ _ (E'.setO hz' np' ho' ro' far new (fun q => hx p q new) ?_)
    cases m with
    | false => exact .inl (hm rfl)
    | true => exact .inr (by simpa using h0)
theorem ps_ownD (hm : m = false → ex = []) (hx0 : ∀ p ∈ ex, H0 p ≠ none) {hd : List Nat} {i : Nat} {x : Str} {e : Expr} {f : Env → M D} {pos pos' : Pos} (hN : X.N.Nodup) (hi : X.N[i]? = some x) (hx : L2.Loc X.env.scope x) (hf : X.fn x = true ∨ X.env.scope.names.lookup x = some .local)
    (h : PE X e (tF S Wx f)) (hc : notComp e = true) : PS X (.Assign [.Name x pos'] e pos) (tS S Wx W0 H0 ex F (sOwn m hd i f)) :=
  impS (ps_set hN hi hx h (noSwap hc) hf) (own_rd hm hx0)
theorem ps_ownS (hm : m = false → ex = []) (hx0 : ∀ p ∈ ex, H0 p ≠ none) {hd : List Nat} {i : Nat} {x : Str} {e : Expr} {f : Env → M D} {pos pos' : Pos} (hN : X.N.Nodup) (hi : X.N[i]? = some x) (hx : L2.Loc X.env.scope x) (hf : X.fn x = true ∨ X.env.scope.names.lookup x = some .local)
    (h : PE X e (tF S Wx f)) (hc : swapsWith e (some (.Name x pos')) pos.line X.env = pure false) : PS X (.Assign [.Name x pos'] e pos) (tS S Wx W0 H0 ex F (sOwn m hd i f)) :=
  impS (ps_set hN hi hx h hc hf) (own_rd hm hx0)
theorem sw_cell {elt : Expr} {gs : List Comprehension} {scope : Scope} {pos py : Pos} {y : Str} {l : Nat} {env : PySem.Env} (hy : env.scope.names.lookup y = some .cell) : swapsWith (.ListComp elt gs scope pos) (some (.Name y py)) l env = pure false := by
  have ky : env.kindOf y = some .cell := hy
  unfold swapsWith
  simp only [ky]
  have : ((some NameKind.cell : Option NameKind) == some NameKind.local) = false := by decide
  rw [this, Bool.and_false, Bool.false_and, Bool.false_and]
theorem ps_retD (hm : m = false → ex = []) {hd : List Nat} {e : Expr} {f : Env → M D} {pos : Pos} (h : PE X e (tD S Wx f)) : PS X (.Return (some e) pos) (tS S Wx W0 H0 ex F (sRet m hd f)) :=
  impS (ps_ret h) fun D σ H ⟨env, W, g, E, q⟩ => by
    obtain ⟨env1, W1, g1, st, q1⟩ := E.onD hm q
    exact ⟨env1, W1, g1, st, q1.mono fun d g2 W2 H2 _ _ _ q2 v rv => by
      obtain ⟨d', env', W', g', E', r', q3, _⟩ := q2 v rv
      exact q3 _ _ _ _ E' r'⟩
theorem ps_retND {pos : Pos} : PS X (.Return none pos) (tS S Wx W0 H0 ex F sRetN) := impS ps_retN fun D σ H ⟨env, W, g, E, q⟩ => q .non σ W H E rfl
theorem ps_ifD {c : Expr} {a b : List Stmt} {fc : Env → M Bool} {sa sb : SM} {pos : Pos} (hc : PT X c (tB S Wx fc)) (ha : PSs X a (tS S Wx W0 H0 ex F sa)) (hb : PSs X b (tS S Wx W0 H0 ex F sb)) : PS X (.If c a b pos) (tS S Wx W0 H0 ex F (sIf fc sa sb)) :=
  impS (ps_if hc ha hb) fun D σ H ⟨env, W, g, E, q⟩ => by
    obtain ⟨env1, W1, g1, st, q1⟩ := E.onB q
    exact ⟨env1, W1, g1, st, q1.mono fun b g2 W2 H2 _ _ _ q2 => by
      obtain ⟨W', g', E', q3⟩ := q2
      cases b with
      | true => exact ⟨env, W', g', E', q3⟩
      | false => exact ⟨env, W', g', E', q3⟩⟩
theorem pss_nilD : PSs X [] (tS S Wx W0 H0 ex F sNext) := impSs pss_nil fun D σ H ⟨env, W, g, E, q⟩ => q σ W H E
theorem ps_passD {pos : Pos} : PS X (.Pass pos) (tS S Wx W0 H0 ex F sNext) := impS ps_pass fun D σ H ⟨env, W, g, E, q⟩ => q σ W H E
theorem ps_brkD {pos : Pos} : PS X (.Break pos) (tS S Wx W0 H0 ex F sBrk) := impS ps_break fun D σ H ⟨env, W, g, E, q⟩ => q σ W H E
theorem ps_cntD {pos : Pos} : PS X (.Continue pos) (tS S Wx W0 H0 ex F sCnt) := impS ps_continue fun D σ H ⟨env, W, g, E, q⟩ => q σ W H E
theorem pss_consD {st : Stmt} {r : List Stmt} {a b : SM} (h1 : PS X st (tS S Wx W0 H0 ex F a)) (h2 : PSs X r (tS S Wx W0 H0 ex F b)) : PSs X (st :: r) (tS S Wx W0 H0 ex F (sSeq a b)) :=
  impSs (pss_cons h1 h2) fun D σ H ⟨env, W, g, E, q⟩ => ⟨env, W, g, E, by
    unfold sSeq at q
    revert q
    generalize a env g = r1
    intro q
    cases r1 with
    | stuck => exact q
    | err e env' g' => exact q
    | ok f g' =>
      cases f with
      | nx e => exact fun σ' W' H' E' => ⟨e, W', g', E', q⟩
      | rt d e => exact q
      | bk e => exact q
      | ct e => exact q⟩
theorem ownL_some {env : Env} {i : Nat} {ds : List D} (h : ownL env i = some ds) : env[i]? = some (some (.lst ds, true)) := by
  unfold ownL at h
  split at h
  · cases h
    assumption
  · cases h
theorem EnvOk.ownList {W : Gh} {env : Env} {σ : L2.St} {H : Hp} {g : G} {i : Nat} {ds : List D} (E : EnvOk S W0 H0 ex F W env σ H g) (h : ownL env i = some ds) : ∃ p vs, σ[i]? = some (some (V.ref p)) ∧ H p = some (.lst vs) ∧ Reps S W ds vs := by
  obtain ⟨v, h1, p, o, rfl, _, _, h4, ⟨vs, rfl, r⟩, _⟩ := E.own i _ (ownL_some h)
  exact ⟨p, vs, h1, h4, r⟩
theorem few1 {e : Expr} {env : PySem.Env} {cpos : Pos} (h : plainX e = true) : ((backTo cpos (starEach [e] env)).all (fun x => !x.1) && (backToKw cpos (keywordEach [] env)).all (fun x => x.1.isSome)
    && decide ([e].length + ([] : List Keyword).length + (if ([] : List Keyword).isEmpty then 0 else 1) < 30)) = true := by
  rw [starEach_plain h]
  rfl
/-- x.append(e), x.extend(e) -/
theorem ps_appD (hm : m = false → ex = []) (K : X.K = S.K) {hd : List Nat} {i : Nat} {x : Str} {e : Expr} {f : Env → M D} {pos p1 ap cp : Pos} (hi : X.N[i]? = some x) (hv : Vis X.env.scope x) (h1 : (x == ("__debug__" : Str)) = false) (h2 : (x == ("__classdict__" : Str)) = false)
    (h : PE X e (tD S Wx f)) (hp : plainX e = true) (hl : (ap.endLine == cp.line) = true) : PS X (.Expr (.Call (.Attribute (.Name x p1) "append" ap) [e] [] cp) pos) (tS S Wx W0 H0 ex F (sApp m hd i f)) :=
  impS (ps_expr (pe_bm PySem.F.plainAttrs_list PySem.F.slot_list_append PySem.F.type_list_append mt_append (pe_var hi hv h1 h2) (pa_cons h pa_nil (starEach_plain hp)) rfl (few1 hp) hl (starEach_plain hp) rfl)) fun D σ H ⟨env, W, g, E, q⟩ => by
    unfold sApp at q
    cases ho : ownL env i with
    | none => rw [ho] at q; exact q.elim
    | some ds0 =>
      rw [ho] at q
      obtain ⟨p, vs, k1, k2, k3⟩ := E.ownList ho
      obtain ⟨env1, W1, g1, st, q1⟩ := E.onD hm q
      refine ⟨.ref p, k1, .inl ⟨rfl, vs, .inl (.inl k2)⟩, env1, W1, g1, st, q1.mono fun d g2 W2 H2 _ _ _ q2 v rv => ?_⟩
      obtain ⟨d', env', W', g', E', r', q3, _⟩ := q2 v rv
      cases ho' : ownL env' i with
      | none => rw [ho'] at q3; exact q3.elim
      | some ds =>
        rw [ho'] at q3
        obtain ⟨p', vs', j1, j2, j3⟩ := E'.ownList ho'
        rw [k1] at j1
        cases j1
        by_cases hz : ds.length < sizeLine
        · replace q3 : OutS S Wx W0 H0 ex F (if ds.length < sizeLine then .ok (.nx (env'.set i (some (.lst (ds ++ [d']), true)))) g' else .stuck) D := q3
          rw [if_pos hz] at q3
          exact ⟨p, vs', v, rfl, rfl, j2, by rw [← j3.length]; exact hz, q3 _ _ _ (E'.write (ownL_some ho') k1 ⟨_, rfl, j3.append (Reps.one r')⟩)⟩
        · replace q3 : OutS S Wx W0 H0 ex F (if ds.length < sizeLine then .ok (.nx (env'.set i (some (.lst (ds ++ [d']), true)))) g' else .stuck) D := q3
          rw [if_neg hz] at q3
          exact q3.elim
theorem mt_or {X : Cx} {id : String} {r r' : V → List V → Hp → VK → Prop} (h : MtM X id r) (h' : MtM X id r') : MtM X id fun x vs H Q => r x vs H Q ∨ r' x vs H Q := fun pins s σ H x xs v us Q I rx rv q => q.elim (h pins s σ H x xs v us Q I rx rv) (h' pins s σ H x xs v us Q I rx rv)
theorem ps_extD (hm : m = false → ex = []) (K : X.K = S.K) {hd : List Nat} {i : Nat} {x : Str} {e : Expr} {f : Env → M D} {pos p1 ap cp : Pos} (hi : X.N[i]? = some x) (hv : Vis X.env.scope x) (h1 : (x == ("__debug__" : Str)) = false) (h2 : (x == ("__classdict__" : Str)) = false)
    (h : PE X e (tD S Wx f)) (hp : plainX e = true) (hl : (ap.endLine == cp.line) = true) : PS X (.Expr (.Call (.Attribute (.Name x p1) "extend" ap) [e] [] cp) pos) (tS S Wx W0 H0 ex F (sExt m hd i f)) :=
  impS (ps_expr (pe_bm PySem.F.plainAttrs_list PySem.F.slot_list_extend PySem.F.type_list_extend (mt_or mt_extend mt_extendT) (pe_var hi hv h1 h2) (pa_cons h pa_nil (starEach_plain hp)) rfl (few1 hp) hl (starEach_plain hp) rfl)) fun D σ H ⟨env, W, g, E, q⟩ => by
    unfold sExt at q
    cases ho : ownL env i with
    | none => rw [ho] at q; exact q.elim
    | some ds0 =>
      rw [ho] at q
      obtain ⟨p, vs, k1, k2, k3⟩ := E.ownList ho
      obtain ⟨env1, W1, g1, st, q1⟩ := E.onD hm q
      refine ⟨.ref p, k1, .inl ⟨rfl, vs, .inl (.inl k2)⟩, env1, W1, g1, st, q1.mono fun d g2 W2 H2 e2 z2 p2 q2 v rv => ?_⟩
      obtain ⟨d', env', W', g', E', r', q3, _⟩ := q2 v rv
      cases d' with
      | lst es =>
        cases ho' : ownL env' i with
        | none =>
          replace q3 : OutS S Wx W0 H0 ex F (match ownL env' i with | some ds => if ds.length + es.length ≤ sizeLine then .ok (.nx (env'.set i (some (.lst (ds ++ es), true)))) g' else .stuck | none => .stuck) D := q3
          rw [ho'] at q3; exact q3.elim
        | some ds =>
          replace q3 : OutS S Wx W0 H0 ex F (match ownL env' i with | some ds => if ds.length + es.length ≤ sizeLine then .ok (.nx (env'.set i (some (.lst (ds ++ es), true)))) g' else .stuck | none => .stuck) D := q3
          rw [ho'] at q3
          replace q3 : OutS S Wx W0 H0 ex F (if ds.length + es.length ≤ sizeLine then .ok (.nx (env'.set i (some (.lst (ds ++ es), true)))) g' else .stuck) D := q3
          obtain ⟨p', vs', j1, j2, j3⟩ := E'.ownList ho'
          rw [k1] at j1
          cases j1
          obtain ⟨b, us, rfl, hb, rb⟩ := r'
          by_cases hz : ds.length + es.length ≤ sizeLine
          · rw [if_pos hz] at q3
            exact .inl ⟨p, b, vs', us, rfl, rfl, j2, E'.zin _ _ hb, by rw [← j3.length, ← rb.length]; exact hz, q3 _ _ _ (E'.write (ownL_some ho') k1 ⟨_, rfl, j3.append rb⟩)⟩
          · rw [if_neg hz] at q3
            exact q3.elim
      | tup es =>
        cases ho' : ownL env' i with
        | none =>
          replace q3 : OutS S Wx W0 H0 ex F (match ownL env' i with | some ds => if ds.length + es.length ≤ sizeLine then .ok (.nx (env'.set i (some (.lst (ds ++ es), true)))) g' else .stuck | none => .stuck) D := q3
          rw [ho'] at q3; exact q3.elim
        | some ds =>
          replace q3 : OutS S Wx W0 H0 ex F (match ownL env' i with | some ds => if ds.length + es.length ≤ sizeLine then .ok (.nx (env'.set i (some (.lst (ds ++ es), true)))) g' else .stuck | none => .stuck) D := q3
          rw [ho'] at q3
          replace q3 : OutS S Wx W0 H0 ex F (if ds.length + es.length ≤ sizeLine then .ok (.nx (env'.set i (some (.lst (ds ++ es), true)))) g' else .stuck) D := q3
          obtain ⟨p', vs', j1, j2, j3⟩ := E'.ownList ho'
          rw [k1] at j1
          cases j1
          obtain ⟨b, us, rfl, hb, rb⟩ := r'
          by_cases hz : ds.length + es.length ≤ sizeLine
          · rw [if_pos hz] at q3
            exact .inr ⟨p, b, vs', us, rfl, rfl, j2, by rw [K]; exact Rep.sqT E'.zin hb, by rw [← j3.length, ← rb.length]; exact hz, q3 _ _ _ (E'.write (ownL_some ho') k1 ⟨_, rfl, j3.append rb⟩)⟩
          · rw [if_neg hz] at q3
            exact q3.elim
      | _ => exact q3.elim
theorem EnvOk.floor {F' W : Gh} {env : Env} {σ : L2.St} {H : Hp} {g : G} (E : EnvOk S W0 H0 ex F' W env σ H g) (l : Le F F') : EnvOk S W0 H0 ex F W env σ H g := ⟨E.zin, E.pool, E.ext, l.trans E.flo, E.frz, E.own, E.apart, E.slf, E.len, E.sl0⟩
theorem EnvOk.refloor {F' W : Gh} {env : Env} {σ : L2.St} {H : Hp} {g : G} (E : EnvOk S W0 H0 ex F' W env σ H g) : EnvOk S W0 H0 ex W W env σ H g := ⟨E.zin, E.pool, E.ext, .refl, E.frz, E.own, E.apart, E.slf, E.len, E.sl0⟩
theorem EnvOk.step {W W' : Gh} {env : Env} {σ : L2.St} {H H' : Hp} {g g' : G} (E : EnvOk S W0 H0 ex F W env σ H g) (e : Ext [] W H W' H') (z : ZIn W' H') (p : PoolIn W' H' g') : EnvOk S W0 H0 ex F W' env σ H' g' :=
  ⟨z, p, E.ext.trans e.weak, E.flo.trans e.le, fun i d h => by
    obtain ⟨v, k1, k2⟩ := E.frz i d h
    exact ⟨v, k1, k2.mono e.le⟩, fun i d h => by
    obtain ⟨v, k1, q, o, rfl, k2, k3, k4, k5, k6⟩ := E.own i d h
    obtain ⟨a1, a2, a3⟩ := own_stays e k2 k3 k4
    exact ⟨.ref q, k1, q, o, rfl, a1, a2, a3, k5.mono e.le, k6⟩, E.apart, E.slf, E.len, E.sl0⟩
theorem pss_any {body : List Stmt} {sb : SM} (hb : ∀ F, PSs X body (tS S Wx W0 H0 ex F sb)) : PSs X body (fun D σ H => ∃ F', tS S Wx W0 H0 ex F' sb D σ H) := ⟨fun pins s σ H D I ⟨F', h⟩ => (hb F').run pins s σ H D I h⟩
/-- the turns of a for -/
theorem for_turns (K : X.K = S.K) {t : Tg} {sb : SM} {J : It} {ds : List D} {env : Env} {W' : Gh} {σ : L2.St} {H1 : Hp} {g' : G} {Dn : Ends} (l : Le F W') (E' : EnvOk S W0 H0 ex F W' env σ H1 g') (hJ : ItOk S W' ds J) (q : OutS S Wx W0 H0 ex F (forGo t sb ds env g') Dn) :
    ∃ Wn : Nat → Nat → L2.St → Hp → Prop, (∃ m, Wn 0 m σ H1) ∧ ∀ i m σ H, Wn i m σ H →
      (J.stop i H ∧ Dn.nx σ H) ∨ (J.go i H ∧ ∃ N : L2.St → Hp → Prop, (∀ σ' H', N σ' H' → ∃ m', m' < m ∧ Wn (i + 1) m' σ' H') ∧ ∀ x H', J.yld i H x H' → gTg X.K t x σ H' fun σ2 H2 => ∃ F', tS S Wx W0 H0 ex F' sb { Dn with nx := N, ct := N, bk := Dn.nx } σ2 H2) := by
  refine ⟨fun i m σ H => m = ds.length - i ∧ i ≤ ds.length ∧ ∃ env W g, EnvOk S W0 H0 ex W' W env σ H g ∧ OutS S Wx W0 H0 ex F (forGo t sb (ds.drop i) env g) Dn, ⟨ds.length, by simp, Nat.zero_le _, env, W', g', E'.refloor, q⟩, ?_⟩
  rintro i m σ H ⟨rfl, hi, env, W, g, E, q⟩
  have hJ2 := hJ.mono E.flo
  by_cases hlt : i < ds.length
  · refine .inr ⟨hJ2.go i H E.zin hlt, fun σ' H' => ∃ env W g, EnvOk S W0 H0 ex W' W env σ' H' g ∧ OutS S Wx W0 H0 ex F (forGo t sb (ds.drop (i + 1)) env g) Dn, fun σ' H' h => ⟨ds.length - (i + 1), by omega, rfl, hlt, h⟩, fun x H' hy => ?_⟩
    obtain ⟨W2, e2, z2, p2, r2⟩ := hJ2.yld i H x H' _ E.zin hy (List.getElem?_eq_getElem hlt) W g .refl E.zin E.pool
    have E2 := E.step e2 z2 p2
    rw [List.drop_eq_getElem_cons hlt] at q
    unfold forGo at q
    cases hset : setTg t ds[i] env with
    | none => rw [hset] at q; exact q.elim
    | some env1 =>
      rw [hset] at q
      rw [K]
      refine E2.setTg hset r2 fun σ' E3 => ⟨W', env1, W2, g, E3, ?_⟩
      revert q
      show OutS S Wx W0 H0 ex F (match sb env1 g with | .ok (.nx e) g' => forGo t sb (ds.drop (i + 1)) e g' | .ok (.ct e) g' => forGo t sb (ds.drop (i + 1)) e g' | .ok (.bk e) g' => .ok (.nx e) g' | r => r) Dn → _
      cases sb env1 g with
      | stuck => exact fun q => q
      | err e env' g' => exact fun q σ W H c dx E r => q σ W H c dx (E.floor l) r
      | ok f g' =>
        cases f with
        | nx e => exact fun q σ W H E => ⟨e, W, g', E, q⟩
        | ct e => exact fun q σ W H E => ⟨e, W, g', E, q⟩
        | bk e => exact fun q σ W H E => q σ W H (E.floor l)
        | rt d e => exact fun q v σ W H E r => q v σ W H (E.floor l) r
  · have hie : i = ds.length := by omega
    subst hie
    rw [List.drop_length] at q
    exact .inl ⟨hJ2.stop _ H E.zin (Nat.le_refl _), q σ W H (E.floor l)⟩
/-- for -/
theorem ps_forD (hm : m = false → ex = []) (K : X.K = S.K) {hd : List Nat} {t : Tg} {tg iter : Expr} {body : List Stmt} {fi : Env → M (List D)} {sb : SM} {pos : Pos} (hp : PassesOwn (model X.prog X.w) X.A X.env X.xe) (hc : X.calm = true)
    (hi : PI X tg iter (tI S Wx fi)) (hg : PG X tg (gTg X.K t)) (hb : ∀ F, PSs X body (tS S Wx W0 H0 ex F sb)) (hs : ∀ x, foldedSetIterable iter X.env x = pure x) : PS X (.For tg iter body [] pos) (tS S Wx W0 H0 ex F (sFor m hd t fi sb)) :=
  impS (ps_for hp hc hi hg (pss_any hb) hs) fun D σ H ⟨env, W, g, E, q⟩ => by
    obtain ⟨env1, W1, g1, st, q1⟩ := E.onI hm q
    refine ⟨env1, W1, g1, st, q1.mono fun ds g2 W2 H2 _ _ _ q2 J hJ => ?_⟩
    obtain ⟨ds', env', W', g', E', hJ', q3⟩ := q2 J hJ
    exact for_turns K E'.flo E' hJ' q3
theorem ps_forR (K : X.K = S.K) {t : Tg} {tg iter : Expr} {body : List Stmt} {fi : Env → M (List D)} {sb : SM} {pos : Pos} (hp : PassesOwn (model X.prog X.w) X.A X.env X.xe) (hc : X.calm = true)
    (hi : PI X tg iter (tIr S Wx fi)) (hg : PG X tg (gTg X.K t)) (hb : ∀ F, PSs X body (tS S Wx W0 H0 ex F sb)) (hs : ∀ x, foldedSetIterable iter X.env x = pure x) : PS X (.For tg iter body [] pos) (tS S Wx W0 H0 ex F (sForR m t fi sb)) :=
  impS (ps_for hp hc hi hg (pss_any hb) hs) fun D σ H ⟨env, W, g, E, q⟩ => by
    obtain ⟨env1, W1, g1, st, q1⟩ := E.onR q
    refine ⟨env1, W1, g1, st, q1.mono fun ds g2 W2 H2 _ _ _ q2 J hJ => ?_⟩
    obtain ⟨ds', W', g', E', hJ', q3⟩ := q2 J hJ
    exact for_turns K E'.flo E' (hJ' W') q3
/-- while -/
theorem ps_whlD {n : Nat} {c : Expr} {body : List Stmt} {fc : Env → M Bool} {sb : SM} {pos : Pos} (hp : PassesOwn (model X.prog X.w) X.A X.env X.xe) (hc : PT X c (tB S Wx fc)) (hb : PSs X body (tS S Wx W0 H0 ex F sb)) :
    PS X (.While c body [] pos) (tS S Wx W0 H0 ex F (whlGo fc sb n)) :=
  impS (ps_while hp hc hb) fun D σ H ⟨env, W, g, E, q⟩ => by
    refine ⟨fun m σ H => ∃ env W g, EnvOk S W0 H0 ex F W env σ H g ∧ OutS S Wx W0 H0 ex F (whlGo fc sb m env g) D, ⟨n, env, W, g, E, q⟩, fun m σ H ⟨env, W, g, E, q⟩ => ?_⟩
    cases m with
    | zero => exact q.elim
    | succ m =>
      obtain ⟨env1, W1, g1, st, q1⟩ := E.onB (k := fun t => if t = true then (fun env g => match sb env g with
        | .ok (.nx e) g' => whlGo fc sb m e g'
        | .ok (.ct e) g' => whlGo fc sb m e g'
        | .ok (.bk e) g' => .ok (.nx e) g'
        | r => r) else sNext) q
      refine ⟨env1, W1, g1, st, q1.mono fun b g2 W2 H2 _ _ _ q2 => ?_⟩
      obtain ⟨W', g', E', q3⟩ := q2
      cases b with
      | false => exact q3 σ W' H2 E'
      | true =>
        refine ⟨fun σ' H' => ∃ env W g, EnvOk S W0 H0 ex F W env σ' H' g ∧ OutS S Wx W0 H0 ex F (whlGo fc sb m env g) D, fun σ' H' h => ⟨m, Nat.lt_succ_self m, h⟩, env, W', g', E', ?_⟩
        revert q3
        show OutS S Wx W0 H0 ex F (match sb env g' with | .ok (.nx e) g' => whlGo fc sb m e g' | .ok (.ct e) g' => whlGo fc sb m e g' | .ok (.bk e) g' => .ok (.nx e) g' | r => r) D → _
        cases sb env g' with
        | stuck => exact fun q => q
        | err e env' g' => exact fun q => q
        | ok f g' =>
          cases f with
          | nx e => exact fun q σ W H E => ⟨e, W, g', E, q⟩
          | ct e => exact fun q σ W H E => ⟨e, W, g', E, q⟩
          | bk e => exact fun q => q
          | rt d e => exact fun q => q
/-- x op= e, ints -/
theorem aug_rule (op : Operator) {x y : Int} {r : D} (h : augO op x y = some r) : ∃ rd : TIp, PIp X op rd ∧ ∃ z, r = .int z ∧ ∀ H Q, Q (.int z) H → rd (.int x) (.int y) H Q := by
  cases op with
  | Add => cases h; exact ⟨_, ip_add, _, rfl, fun H Q q => ⟨x, y, rfl, rfl, q⟩⟩
  | Sub => cases h; exact ⟨_, ip_sub, _, rfl, fun H Q q => ⟨x, y, rfl, rfl, q⟩⟩
  | Mult =>
    replace h : (if small64 x || small64 y then some (D.int (x * y)) else none) = some r := h
    split at h
    · rename_i hs
      cases h
      refine ⟨_, iop_mul, _, rfl, fun H Q q => ⟨x, y, rfl, rfl, ?_, q⟩⟩
      simp only [small64, Bool.or_eq_true, cb_iff] at hs
      exact hs
    · cases h
  | FloorDiv => cases h
  | Mod =>
    replace h : (if 0 < y then some (D.int (x % y)) else none) = some r := h
    split at h
    · rename_i hs
      cases h
      exact ⟨_, iop_mod, _, rfl, fun H Q q => ⟨x, y, rfl, rfl, hs, q⟩⟩
    · cases h
  | Pow => cases h
  | _ => cases h
theorem ps_augD (hm : m = false → ex = []) {hd : List Nat} {i : Nat} {x : Str} {op : Operator} {e : Expr} {f : Env → M D} {pos pos' : Pos} (hN : X.N.Nodup) (hi : X.N[i]? = some x) (hx : L2.Loc X.env.scope x) (hf : X.fn x = true ∨ X.env.scope.names.lookup x = some .local)
    (h : PE X e (tD S Wx f)) : PS X (.AugAssign (.Name x pos') op e pos) (tS S Wx W0 H0 ex F (sAug m hd i op f)) := by
  have rule : PIp X op (fun a b H Q => ∃ x y r z, a = .int x ∧ b = .int y ∧ augO op x y = some r ∧ r = .int z ∧ Q (.int z) H) := by
    intro pins s σ H a b v u Q I ra rb ⟨x, y, r, z, e1, e2, h1, h2, q⟩
    obtain ⟨rd, hp, z', e3, k⟩ := aug_rule (X := X) op h1
    rw [h2] at e3
    cases e3
    subst e1 e2
    exact hp pins s σ H _ _ v u Q I ra rb (k H Q q)
  refine impS (ps_aug hN hi hx h rule hf) fun D σ H ⟨env, W, g, E, q⟩ => ?_
  unfold sAug at q
  have : ∀ o, env[i]? = o → OutS S Wx W0 H0 ex F (match o with
    | some (some (.int x, false)) => onD m hd f (fun d env g => match d with
      | .int y => match augO op x y with
        | some r => .ok (.nx (env.set i (some (r, false)))) g
        | none => .stuck
      | _ => .stuck) env g
    | _ => .stuck) D → tAug i (tD S Wx f) (fun a b H Q => ∃ x y r z, a = .int x ∧ b = .int y ∧ augO op x y = some r ∧ r = .int z ∧ Q (.int z) H) D σ H := by
    intro o ho q
    split at q
    · rename_i x0
      obtain ⟨v, k1, k2⟩ := E.frz i _ ho
      obtain rfl : v = .int x0 := k2
      refine ⟨.int x0, k1, ?_⟩
      obtain ⟨env1, W1, g1, st, q1⟩ := E.onD hm q
      refine ⟨env1, W1, g1, st, q1.mono fun d g2 W2 H2 _ _ _ q2 y ry => ?_⟩
      obtain ⟨d', env', W', g', E', r', q3, _⟩ := q2 y ry
      cases d' with
      | int y0 =>
        obtain rfl : y = .int y0 := r'
        cases hb : augO op x0 y0 with
        | none =>
          replace q3 : OutS S Wx W0 H0 ex F (match augO op x0 y0 with | some r => .ok (.nx (env'.set i (some (r, false)))) g' | none => .stuck) D := q3
          rw [hb] at q3; exact q3.elim
        | some r =>
          replace q3 : OutS S Wx W0 H0 ex F (match augO op x0 y0 with | some r => .ok (.nx (env'.set i (some (r, false)))) g' | none => .stuck) D := q3
          rw [hb] at q3
          obtain ⟨_, _, z, rfl, _⟩ := aug_rule (X := X) op hb
          exact ⟨x0, y0, _, z, rfl, rfl, hb, rfl, q3 _ _ _ (E'.setF (v := .int z) rfl)⟩
      | _ => exact q3.elim
    · exact q.elim
  exact this _ rfl q
end
end Dv
end
section
set_option maxHeartbeats 400000
/-! DvN: ranges, raise, try, comprehensions that are named. -/
namespace Dv
open PySem PySem.Spec PyProof.Rows L2
section
variable {S : Sx} {X : Cx} {Wx : WX}
theorem pi_rng1r {tg a : Expr} {fs : Env → M (List D)} {p pos : Pos} (hg : Gl X "range") (hm : X.mg "range" = none) (ha : PA X [a] (tA S Wx fs)) (hp : plainX a = true) : PI X tg (.Call (.Name "range" p) [a] [] pos) (tIr S Wx (thenL fs rng1O)) :=
  impI (pi_range1 hg hm ha (starEach_plain hp)) fun σ H R ⟨env, W, g, st, q⟩ => ⟨env, W, g, st, q.bind.mono fun ds g1 W1 H1 e1 z1 p1 q1 vs rs => by
    obtain ⟨xs, hx, q2⟩ := q1.of
    unfold rng1O at hx
    split at hx
    · split at hx
      · rename_i hr
        cases hx
        obtain ⟨h1, h2⟩ := inR_ok hr
        exact ⟨_, reps1 rs, h1, h2, q2 _ _ .refl z1 p1 _ fun W2 => itr_ok W2 0 _⟩
      · cases hx
    · cases hx⟩
theorem pi_rng2r {tg a b : Expr} {fs : Env → M (List D)} {p pos : Pos} (hg : Gl X "range") (hm : X.mg "range" = none) (ha : PA X [a, b] (tA S Wx fs)) (hp : plainX a = true) (hp2 : plainX b = true) :
    PI X tg (.Call (.Name "range" p) [a, b] [] pos) (tIr S Wx (thenL fs rng2O)) :=
  impI (pi_range2 hg hm ha (by rw [starEach_plain hp, starEach_plain hp2]; rfl) (by rw [starEach_plain hp2]; rfl)) fun σ H R ⟨env, W, g, st, q⟩ => ⟨env, W, g, st, q.bind.mono fun ds g1 W1 H1 e1 z1 p1 q1 vs rs => by
    obtain ⟨xs, hx, q2⟩ := q1.of
    unfold rng2O at hx
    split at hx
    · split at hx
      · rename_i hr
        cases hx
        simp only [Bool.and_eq_true] at hr
        obtain ⟨h1, h2⟩ := inR_ok hr.1
        obtain ⟨h3, h4⟩ := inR_ok hr.2
        exact ⟨_, _, reps2 rs, ⟨h1, h2, h3, h4⟩, q2 _ _ .refl z1 p1 _ fun W2 => itr_ok W2 _ _⟩
      · cases hx
    · cases hx⟩
/-- X() of an own class of exceptions -/
theorem pmk_own0 {C : Addr} {bmB : List Value} {B newId initId : String} {x : Str} {p pos : Pos} (F : ExcBaseFacts B newId initId bmB) (q : PySem.W.excIn X.K C bmB newId = true) (gC : X.mg x = some (.ref C)) (kC : PySem.W.keepIn X.K (.ref C) = true) (r : L2.Raises X (.ref C)) (hg : Gl X x)
    (hdb : (x == ("__debug__" : Str)) = false) : L2.PMk X (.Call (.Name x p) [] [] pos) (fun _ H Q => Q (.ref C) none H) := by
  intro pins s σ H Q I h
  refine wpAny_Call_Name_kw (ld_glob I hg gC ?_ hdb)
  refine PySem.W.callWith_K0 (first := []) I.kIn kC ?_
  show wpAny _ _ (call (.ref C) []) _ _ _
  obtain ⟨bm, N, nm, qn, bs, hdct, sn, sub, ab, col, dd, k0, k1, k2, k3, k5, mN, hC, hN, hni, T⟩ := exc_obj I.kIn q
  refine wpAny_call_exc_subT (rest := []) F T hC hN hni (fun h' e hm => ?_) (Nat.zero_le _)
  exact L2.mk_of I hm r h (I.hok.gone hm.new)
variable {W0 : Gh} {H0 : Hp} {ex : List Addr} {F : Gh} {mg : Str → Option Value}
theorem ps_raiseD (K : X.K = S.K) (hmg : X.mg = mg) (hc : X.calm = true) (tk : L2.Takes X Wx) {x : Str} {c : Nat} {p pos pos' : Pos} (k : ExcK S mg x c) (hg : Gl X x) (hdb : (x == ("__debug__" : Str)) = false) :
    PS X (.Raise (some (.Call (.Name x p) [] [] pos)) none pos') (tS S Wx W0 H0 ex F (sRaise c)) := by
  obtain ⟨B, newId, initId, bmB, hF, hq⟩ := k.ex
  rw [← K] at hq
  refine impS (L2.ps_raise hc tk (pmk_own0 hF hq (by rw [hmg]; exact k.mg) (by rw [K]; exact k.kp) (L2.raises_own (by rw [K]; exact k.sub) (by rw [K]; exact k.ty)) hg hdb)) fun D σ H ⟨env, W, g, E, q⟩ => ?_
  exact q σ W H _ none E ⟨rfl, .inl ⟨rfl, rfl⟩⟩
/-- try: b except X: h -/
def sTry (ms : List (Nat × Bool)) (b h : SM) : SM := fun env g => match b env g with
  | .err e env' g' => match ms.lookup e.c with
    | some true => match h env' g' with
      | .err _ _ _ => .stuck
      | r => r
    | some false => .err e env' g'
    | none => .stuck
  | r => r
theorem lookup_mem {α β : Type} [BEq α] [LawfulBEq α] {a : α} {b : β} : ∀ {l : List (α × β)}, l.lookup a = some b → (a, b) ∈ l
  | [], h => by cases h
  | (k, v) :: r, h => by
    rw [List.lookup_cons] at h
    cases q : a == k with
    | true =>
      simp only [q] at h
      cases h
      rw [eq_of_beq q]
      exact List.mem_cons_self
    | false =>
      simp only [q] at h
      exact List.mem_cons_of_mem _ (lookup_mem h)
theorem ps_tryD (hs : X.stack = X.env :: X.outer) (hf : X.env.frame = some X.env.locals) (K : X.K = S.K) (tk : L2.Takes X Wx) {x : Str} {cv : Value} {ms : List (Nat × Bool)} {body suite : List Stmt} {b₀ : Stmt} {np pos pos' : Pos} {sb sh : SM} (hc : L2.Names X x cv)
    (hm : ∀ c b, (c, b) ∈ ms → PySem.W.exmOne S.K (.ref (S.cls c)) cv = some b)
    (hb : ∀ (W : WX) (pn : List (Addr × Obj)) (xe : Value → Shared → Prop), L2.Takes (X.tr pn xe) W → PassesOwn (model X.prog X.w) X.A X.env xe → PSs (X.tr pn xe) body (tS S W W0 H0 ex F sb))
    (hsu : ∀ (a : Addr) (pn : List (Addr × Obj)), PSs (X.suite a pn) (b₀ :: suite) (tS S noW W0 H0 ex F sh)) :
    PS X (.Try body [.ExceptHandler (some (.Name x np)) none (b₀ :: suite) pos'] [] [] pos) (tS S Wx W0 H0 ex F (sTry ms sb sh)) := by
  refine impS (ps_try_only hs hf hc tk hb (ts := fun _ _ _ => tS S noW W0 H0 ex F sh) fun a oe cls d pn _ _ => hsu a _) fun D σ H ⟨env, W, g, E, q⟩ => ⟨env, W, g, E, ?_⟩
  unfold sTry at q
  revert q
  cases sb env g with
  | stuck => exact fun q => q
  | ok f g' =>
    cases f with
    | nx e => exact fun q => q
    | rt d e => exact fun q => q
    | bk e => exact fun q => q
    | ct e => exact fun q => q
  | err e env' g' =>
    intro q σ' W' H' cls dx E' r
    replace q : OutS S Wx W0 H0 ex F (match ms.lookup e.c with | some true => (match sh env' g' with | .err _ _ _ => .stuck | r => r) | some false => .err e env' g' | none => .stuck) D := q
    cases hl : ms.lookup e.c with
    | none => rw [hl] at q; exact q.elim
    | some b =>
      rw [hl] at q
      have hx := hm _ _ (lookup_mem hl)
      refine ⟨b, by rw [r.1, K]; exact hx, fun hb a ha => ⟨env', W', g', E', ?_⟩, fun hb => ?_⟩
      · subst hb
        replace q : OutS S Wx W0 H0 ex F (match sh env' g' with | .err _ _ _ => .stuck | r => r) D := q
        revert q
        cases sh env' g' with
        | stuck => exact fun q => q
        | err e env' g' => exact fun q => q.elim
        | ok f g' =>
          cases f with
          | nx e => exact fun q => q
          | rt d e => exact fun q => q
          | bk e => exact fun q => q
          | ct e => exact fun q => q
      · subst hb
        exact q σ' W' H' cls dx E' r
/-- several clauses -/
def goH : List (List (Nat × Bool) × SM) → Ex → SM
  | [], e => fun env g => .err e env g
  | (ms, h) :: r, e => fun env g => match ms.lookup e.c with
    | some true => match h env g with
      | .err _ _ _ => .stuck
      | r => r
    | some false => goH r e env g
    | none => .stuck
def sTryN (hs : List (List (Nat × Bool) × SM)) (b : SM) : SM := fun env g => match b env g with
  | .err e env' g' => goH hs e env' g'
  | r => r
inductive HdsD (S : Sx) (W0 : Gh) (H0 : Hp) (ex : List Addr) (F : Gh) (X : Cx) : List ExceptHandler → List (List (Nat × Bool) × SM) → List (Value × (Addr → Value → Option Addr → L2.TS)) → Prop
  | nil : HdsD S W0 H0 ex F X [] [] []
  | cons {x : Str} {cv : Value} {ms : List (Nat × Bool)} {sh : SM} {b₀ : Stmt} {suite : List Stmt} {np pos' : Pos} {hds : List ExceptHandler} {l : List (List (Nat × Bool) × SM)} {l' : List (Value × (Addr → Value → Option Addr → L2.TS))} (hc : L2.Names X x cv)
      (hm : ∀ c b, (c, b) ∈ ms → PySem.W.exmOne S.K (.ref (S.cls c)) cv = some b) (hsu : ∀ (a : Addr) (pn : List (Addr × Obj)), PSs (X.suite a pn) (b₀ :: suite) (tS S noW W0 H0 ex F sh)) (r : HdsD S W0 H0 ex F X hds l l') :
      HdsD S W0 H0 ex F X (.ExceptHandler (some (.Name x np)) none (b₀ :: suite) pos' :: hds) ((ms, sh) :: l) ((cv, fun _ _ _ => tS S noW W0 H0 ex F sh) :: l')
theorem HdsD.ok {hds : List ExceptHandler} {l : List (List (Nat × Bool) × SM)} {l' : List (Value × (Addr → Value → Option Addr → L2.TS))} (h : HdsD S W0 H0 ex F X hds l l') : L2.HdsOk X hds l' := by
  induction h with
  | nil => exact .nil
  | cons hc hm hsu r ih => exact .cons hc (fun a oe cls d pn _ _ => hsu a _) ih
theorem HdsD.wish (K : X.K = S.K) {hds : List ExceptHandler} {l : List (List (Nat × Bool) × SM)} {l' : List (Value × (Addr → Value → Option Addr → L2.TS))} (h : HdsD S W0 H0 ex F X hds l l') {e : Ex} {env' : Env} {g' : G} {D : L2.Ends}
    (q : OutS S Wx W0 H0 ex F (goH l e env' g') D) : OutS S (L2.wMany X.K Wx D l') W0 H0 ex F (.err e env' g') D := by
  intro σ' W' H' cls dx E' r
  induction h with
  | nil => exact q σ' W' H' cls dx E' r
  | @cons x cv ms sh b₀ suite np pos' hds l l' hc hm hsu r' ih =>
    replace q : OutS S Wx W0 H0 ex F (match ms.lookup e.c with | some true => (match sh env' g' with | .err _ _ _ => .stuck | r => r) | some false => goH l e env' g' | none => .stuck) D := q
    cases hl : ms.lookup e.c with
    | none => rw [hl] at q; exact q.elim
    | some b =>
      rw [hl] at q
      have hx := hm _ _ (lookup_mem hl)
      refine ⟨b, by rw [r.1, K]; exact hx, fun hb a ha => ⟨env', W', g', E', ?_⟩, fun hb => ?_⟩
      · subst hb
        replace q : OutS S Wx W0 H0 ex F (match sh env' g' with | .err _ _ _ => .stuck | r => r) D := q
        revert q
        cases sh env' g' with
        | stuck => exact fun q => q
        | err e env' g' => exact fun q => q.elim
        | ok f g' =>
          cases f with
          | nx e => exact fun q => q
          | rt d e => exact fun q => q
          | bk e => exact fun q => q
          | ct e => exact fun q => q
      · subst hb
        exact ih q
theorem ps_tryND (hs : X.stack = X.env :: X.outer) (hf : X.env.frame = some X.env.locals) (K : X.K = S.K) (tk : L2.Takes X Wx) {body : List Stmt} {h₀ : ExceptHandler} {hds : List ExceptHandler} {l : List (List (Nat × Bool) × SM)} {l' : List (Value × (Addr → Value → Option Addr → L2.TS))} {pos : Pos} {sb : SM}
    (hb : ∀ (W : WX) (pn : List (Addr × Obj)) (xe : Value → Shared → Prop), L2.Takes (X.tr pn xe) W → PassesOwn (model X.prog X.w) X.A X.env xe → PSs (X.tr pn xe) body (tS S W W0 H0 ex F sb))
    (hh : HdsD S W0 H0 ex F X (h₀ :: hds) l l') :
    PS X (.Try body (h₀ :: hds) [] [] pos) (tS S Wx W0 H0 ex F (sTryN l sb)) := by
  refine impS (L2.ps_try_many hs hf tk hb hh.ok) fun D σ H ⟨env, W, g, E, q⟩ => ⟨env, W, g, E, ?_⟩
  unfold sTryN at q
  revert q
  cases sb env g with
  | stuck => exact fun q => q
  | ok f g' =>
    cases f with
    | nx e => exact fun q => q
    | rt d e => exact fun q => q
    | bk e => exact fun q => q
    | ct e => exact fun q => q
  | err e env' g' => exact fun q => hh.wish K q
end
end Dv
end
section
set_option maxHeartbeats 400000
/-! DvTe: try .. except X as e: y = [isinstance(e, A), ..]. -/
namespace Dv
open PySem PySem.Spec PyProof.Rows L2
section
variable {X : Cx}
theorem pe_ise {a D A : Addr} {oe : Obj} {pn : List (Addr × Obj)} {ie : Nat} {n x : Str} {p p1 p2 pos : Pos} {b : Bool} (C : ExcC X.K D) (hz : Zc (.ref D) none oe) (hf : ∃ vs, oe.data = .fields vs) (hk : PySem.W.kitOne X.K (.ref D) (.ref A) = some b)
    (hi : X.N[ie]? = some n) (hv : Vis X.env.scope n) (h1 : (n == ("__debug__" : Str)) = false) (h2 : (n == ("__classdict__" : Str)) = false) (hgi : Gl X "isinstance") (hmi : X.mg "isinstance" = none) (hgx : Gl X x) (hmx : X.mg x = some (.ref A)) (hdx : (x == ("__debug__" : Str)) = false) :
    PE (X.suite a ((a, oe) :: pn)) (.Call (.Name "isinstance" p) [.Name n p1, .Name x p2] [] pos) (fun σ H Q => σ[ie]? = some (some (.ref a)) ∧ Q (.bl b) H) := by
  have e1 : PE (X.suite a ((a, oe) :: pn)) (.Name n p1) (tVar ie) := pe_var hi hv h1 h2
  have e2 : PE (X.suite a ((a, oe) :: pn)) (.Name x p2) (tC (.ref A)) := pe_glob (v := .ref A) hgx hmx rfl hdx
  have pa := pa_cons e1 (pa_cons e2 pa_nil (starEach_plain rfl)) (starEach_plain rfl)
  exact impE (pe_callB (X := X.suite a ((a, oe) :: pn)) (call_isE C hz hf) hgi hmi (by decide +kernel) pa (by decide +kernel) (by decide +kernel) (starEach_plain rfl) (noafter rfl)) fun σ H Q ⟨q1, q2⟩ =>
    ⟨.ref a, q1, ⟨.ref A, .ref A, b, rfl, fun u h => h, hk, q2⟩⟩
end
section
variable {S : Sx} {Wx : WX} {X : Cx} {W0 : Gh} {H0 : Hp} {ex : List Addr} {F : Gh}
/-- a slot set to nothing known -/
theorem EnvOk.del {W : Gh} {env : Env} {σ : L2.St} {H : Hp} {g : G} (E : EnvOk S W0 H0 ex F W env σ H g) (i : Nat) (x : Option V) : EnvOk S W0 H0 ex F W (env.set i none) (σ.set i x) H g := by
  have get : ∀ (j : Nat) (d : D) (b : Bool), (env.set i none)[j]? = some (some (d, b)) → j ≠ i ∧ env[j]? = some (some (d, b)) ∧ (σ.set i x)[j]? = σ[j]? := fun j d b h => by
    by_cases e : j = i
    · subst e
      rw [List.getElem?_set] at h
      simp only [if_true] at h
      split at h <;> cases h
    · rw [List.getElem?_set_ne (Ne.symm e)] at h
      exact ⟨e, h, by rw [List.getElem?_set_ne (Ne.symm e)]⟩
  refine ⟨E.zin, E.pool, E.ext, E.flo, fun j d h => ?_, fun j d h => ?_, fun j k d e v h1 h2 h3 h4 => ?_, fun j d p h1 h2 h3 => ?_, by rw [List.length_set, List.length_set]; exact E.len, fun p hp d h => ?_⟩
  · obtain ⟨_, h1, h2⟩ := get j d _ h
    rw [h2]
    exact E.frz j d h1
  · obtain ⟨_, h1, h2⟩ := get j d _ h
    rw [h2]
    exact E.own j d h1
  · obtain ⟨_, a1, a2⟩ := get j d _ h1
    obtain ⟨_, b1, b2⟩ := get k e _ h2
    rw [a2] at h3
    rw [b2] at h4
    exact E.apart j k d e v a1 b1 h3 h4
  · obtain ⟨_, a1, a2⟩ := get j d _ h1
    rw [a2] at h2
    exact E.slf j d p a1 h2 h3
  · obtain ⟨_, a1, a2⟩ := get 0 d _ h
    rw [a2]
    exact E.sl0 p hp d a1
/-- the flags that the classes answer -/
def flagsO (l : List (Str × List (Nat × Bool))) (c : Nat) : Option (List Bool) := match l with
  | [] => some []
  | p :: r => match p.2.lookup c, flagsO r c with
    | some b, some bs => some (b :: bs)
    | _, _ => none
def sTryE (ms : List (Nat × Bool)) (ie i : Nat) (l : List (Str × List (Nat × Bool))) (b : SM) : SM := fun env g => match b env g with
  | .err e env' g' => match ms.lookup e.c with
    | some true => if e.fs = [] ∧ ie < env'.length ∧ l.length ≤ 1000 then (match flagsO l e.c with
      | some bs => .ok (.nx (((env'.set ie none).set i (some (.lst (bs.map .bl), false))).set ie none)) g'
      | none => .stuck) else .stuck
    | some false => .err e env' g'
    | none => .stuck
  | r => r
def isesB (sc : Scope) (n : Str) : List (Str × List (Nat × Bool)) → List Expr → Bool
  | [], es => match es with
    | [] => true
    | _ => false
  | p :: r, es => match es with
    | .Call (.Name i _) [.Name m _, .Name z _] [] _ :: es => decide (i = ("isinstance" : Str)) && decide (m = n) && decide (z = p.1) && glB sc i && glB sc z && isesB sc n r es
    | _ => false
theorem flags_len : ∀ {l : List (Str × List (Nat × Bool))} {c : Nat} {bs : List Bool}, flagsO l c = some bs → bs.length = l.length
  | [], c, bs, h => by cases h; rfl
  | p :: r, c, bs, h => by
    unfold flagsO at h
    split at h
    · rename_i b bs' h1 h2
      cases h
      rw [List.length_cons, flags_len h2, List.length_cons]
    · cases h
theorem pa_ises {mg : Str → Option Value} {sc : Scope} {a : Addr} {oe : Obj} {pn : List (Addr × Obj)} {ie c : Nat} {n : Str} (K : X.K = S.K) (hmg : X.mg = mg) (hz : Zc (.ref (S.cls c)) none oe) (hf : ∃ vs, oe.data = .fields vs)
    (hgl : ∀ x, glB sc x = true → Gl X x ∧ (x == ("__debug__" : Str)) = false) (hi : X.N[ie]? = some n) (hv : Vis X.env.scope n) (h1 : (n == ("__debug__" : Str)) = false) (h2 : (n == ("__classdict__" : Str)) = false) (hmi : mg "isinstance" = none) :
    ∀ {l : List (Str × List (Nat × Bool))} {es : List Expr} {bs : List Bool}, isesB sc n l es = true → (∀ p ∈ l, KnownX S mg p.1 p.2) → flagsO l c = some bs →
      PA (X.suite a ((a, oe) :: pn)) es (fun σ H Q => σ[ie]? = some (some (.ref a)) ∧ Q (bs.map V.bl) H) ∧ es.all plainX = true
  | [], es, bs, h, hk, hb => by
    cases hb
    unfold isesB at h
    split at h
    · exact ⟨⟨fun pos pins s σ H Q I q => (pa_nil (X := X.suite a ((a, oe) :: pn))).run pos pins s σ H Q I q.2⟩, rfl⟩
    · cases h
  | p :: r, es, bs, h, hk, hb => by
    unfold flagsO at hb
    split at hb
    · rename_i b bs' hb1 hb2
      cases hb
      unfold isesB at h
      split at h
      · simp only [Bool.and_eq_true, decide_eq_true_eq] at h
        obtain ⟨⟨⟨⟨⟨rfl, rfl⟩, rfl⟩, g1⟩, g2⟩, g3⟩ := h
        obtain ⟨ih, ip⟩ := pa_ises (a := a) (pn := pn) K hmg hz hf hgl hi hv h1 h2 hmi g3 (fun q hq => hk q (List.mem_cons_of_mem _ hq)) hb2
        obtain ⟨A, hA, hall⟩ := (hk p List.mem_cons_self).ex
        obtain ⟨xc, xk⟩ := hall c b (lookup_mem hb1)
        have pe := fun q0 q1 q2 q3 => pe_ise (X := X) (a := a) (pn := pn) (ie := ie) (b := b) (p := q0) (p1 := q1) (p2 := q2) (pos := q3) (by rw [K]; exact xc) hz hf (by rw [K]; exact xk) hi hv h1 h2 (hgl _ g1).1 (by rw [hmg]; exact hmi) (hgl _ g2).1 (by rw [hmg]; exact hA) (hgl _ g2).2
        exact ⟨⟨fun pos pins s σ H Q I q => (pa_cons (pe _ _ _ _) ih (starEach_plain rfl)).run pos pins s σ H Q I ⟨q.1, q.1, q.2⟩⟩, by rw [List.all_cons, ip]; rfl⟩
      · cases h
    · cases hb
theorem reps_bl {W : Gh} : ∀ bs : List Bool, Reps S W (bs.map D.bl) (bs.map V.bl)
  | [] => trivial
  | b :: bs => ⟨rfl, reps_bl bs⟩
theorem ps_tryED {mg : Str → Option Value} {sc : Scope} (hs : X.stack = X.env :: X.outer) (hf : X.env.frame = some X.env.locals) (K : X.K = S.K) (hmg : X.mg = mg) (tk : L2.Takes X Wx) (nd : X.N.Nodup)
    (hgl : ∀ x, glB sc x = true → Gl X x ∧ (x == ("__debug__" : Str)) = false) {x n y : Str} {cv : Value} {ms : List (Nat × Bool)} {ie i : Nat} {l : List (Str × List (Nat × Bool))} {body : List Stmt} {es : List Expr} {np pos pos' yp lp ap : Pos} {sb : SM} (hc : L2.Names X x cv)
    (hm : ∀ c b, (c, b) ∈ ms → PySem.W.exmOne S.K (.ref (S.cls c)) cv = some b)
    (hie : X.N[ie]? = some n) (hln : X.env.kindOf n = some .local) (hv : Vis X.env.scope n) (h1 : (n == ("__debug__" : Str)) = false) (h2 : (n == ("__classdict__" : Str)) = false) (hmi : mg "isinstance" = none)
    (hi : X.N[i]? = some y) (hy : Loc X.env.scope y) (hfy : X.fn y = true ∨ X.env.scope.names.lookup y = some .local) (hes : isesB sc n l es = true) (hk : ∀ p ∈ l, KnownX S mg p.1 p.2)
    (hb : ∀ (W : WX) (pn : List (Addr × Obj)) (xe : Value → Shared → Prop), L2.Takes (X.tr pn xe) W → PassesOwn (model X.prog X.w) X.A X.env xe → PSs (X.tr pn xe) body (tS S W W0 H0 ex F sb)) :
    PS X (.Try body [.ExceptHandler (some (.Name x np)) (some n) [.Assign [.Name y yp] (.List es lp) ap] pos'] [] [] pos) (tS S Wx W0 H0 ex F (sTryE ms ie i l sb)) := by
  let ts : Addr → Value → Option Addr → TS := fun a cls d D σ H => d = none ∧ σ[ie]? = some (some (.ref a)) ∧ ∃ c bs, cls = .ref (S.cls c) ∧ flagsO l c = some bs ∧ l.length ≤ 1000 ∧ ∀ p, H p = none → D.nx (σ.set i (some (.ref p))) (upd H p (.lst (bs.map V.bl)))
  have hsu : ∀ (a : Addr) (oe : Obj) (cls : Value) (d : Option Addr) (pn : List (Addr × Obj)), Zc cls d oe → (∃ vs, oe.data = .fields vs) → PSs (X.suite a ((a, oe) :: pn)) [.Assign [.Name y yp] (.List es lp) ap] (ts a cls d) := by
    intro a oe cls d pn hz hd
    refine ⟨fun pins s σ H D I q => ?_⟩
    obtain ⟨rfl, q1, c, bs, rfl, q2, q3, q4⟩ := q
    obtain ⟨pa, _⟩ := pa_ises (a := a) (pn := pn) K hmg hz hd hgl hie hv h1 h2 hmi hes hk q2
    have st := ps_set (X := X.suite a ((a, oe) :: pn)) (pos' := yp) (pos := ap) nd hi hy (pe_lst (pos := lp) pa) (noSwap rfl) hfy
    exact (pss_cons st pss_nil).run pins s σ H D I ⟨q1, by rw [List.length_map, flags_len q2, sizeLine_eq]; omega, fun p hp => q4 p hp⟩
  refine impS (ps_try_as hs hf nd hie hln hc tk hb hsu) fun D σ H ⟨env, W, g, E, q⟩ => ⟨env, W, g, E, ?_⟩
  unfold sTryE at q
  revert q
  cases sb env g with
  | stuck => exact fun q => q
  | ok f g' =>
    cases f with
    | nx e => exact fun q => q
    | rt d e => exact fun q => q
    | bk e => exact fun q => q
    | ct e => exact fun q => q
  | err e env' g' =>
    intro q σ' W' H' cls dx E' r
    replace q : OutS S Wx W0 H0 ex F (match ms.lookup e.c with
      | some true => if e.fs = [] ∧ ie < env'.length ∧ l.length ≤ 1000 then (match flagsO l e.c with
        | some bs => .ok (.nx (((env'.set ie none).set i (some (.lst (bs.map .bl), false))).set ie none)) g'
        | none => .stuck) else .stuck
      | some false => .err e env' g'
      | none => .stuck) D := q
    cases hl : ms.lookup e.c with
    | none => rw [hl] at q; exact q.elim
    | some b =>
      rw [hl] at q
      have hx := hm _ _ (lookup_mem hl)
      refine ⟨b, by rw [r.1, K]; exact hx, fun hb a ha => ?_, fun hb => ?_⟩
      · subst hb
        simp only at q
        split at q
        · rename_i hc3
          obtain ⟨hfs, hlt, hl3⟩ := hc3
          cases hfl : flagsO l e.c with
          | none => rw [hfl] at q; exact q.elim
          | some bs =>
            rw [hfl] at q
            simp only at q
            have hdx : dx = none := by
              rcases r.2 with h | ⟨_, _, h, _⟩
              · exact h.1
              · exact absurd hfs h
            refine ⟨hdx, by rw [List.getElem?_set_self (by rw [← E'.len]; exact hlt)], e.c, bs, r.1, hfl, hl3, fun p hp => ?_⟩
            have E1 := E'.del ie (some (V.ref a))
            have hzp : W'.Z p = none := by
              cases hzz : W'.Z p with
              | none => rfl
              | some o => have := E'.zin _ _ hzz; rw [hp] at this; cases this
            have npp : ¬ inPool W' p := nopool E'.pool hp
            have e0 : Ext [] W' H' W' (upd H' p (.lst (bs.map V.bl))) := ⟨.refl, fun b u hb _ _ => by
              have : b ≠ p := fun z => by subst z; rw [hp] at hb; cases hb
              rw [upd_ne this]; exact hb, fun b hb => by
              by_cases z : b = p
              · subst z; rw [upd_same]; simp
              · rw [upd_ne z]; exact hb, fun b u hb => .inl hb, fun b hb => .inl hb⟩
            have z0 : ZIn W' (upd H' p (.lst (bs.map V.bl))) := fun b u hb => by
              have : b ≠ p := fun z => by subst z; rw [hzp] at hb; cases hb
              rw [upd_ne this]; exact E'.zin b u hb
            have p0 : PoolIn W' (upd H' p (.lst (bs.map V.bl))) g' := E'.pool.grow npp
            obtain ⟨f1, f2, f3, f4⟩ := freezeNew (S := S) (d := Dv.D.lst (bs.map Dv.D.bl)) e0 z0 p0 hp hzp npp upd_same ⟨_, rfl, reps_bl bs⟩
            have E2 := ((E1.step f1 f2 f3).setF (i := i) f4).del ie none
            exact q _ _ _ E2
        · exact q.elim
      · subst hb
        exact q σ' W' H' cls dx E' r
end
end Dv
end
section
set_option maxHeartbeats 400000
/-! DvO: fields that are set, classes that are made, defs by their bodies. -/
namespace Dv
open PySem PySem.Spec PyProof.Rows L2
def putD (f : Str) (v : D) : List (Str × D) → List (Str × D)
  | [] => [(f, v)]
  | (g, x) :: r => if g = f then (g, v) :: r else (g, x) :: putD f v r
theorem RepF.put {S : Sx} {W : Gh} {f : Str} {d : D} {v : V} (r : Rep S W d v) : ∀ {fs : List (Str × D)} {vfs : List (Str × V)}, RepF S W fs vfs → RepF S W (putD f d fs) (putF f v vfs)
  | [], [], _ => ⟨rfl, r, trivial⟩
  | (g, e) :: fs, (g', u) :: vfs, h => by
    obtain ⟨rfl, h1, h2⟩ := h
    unfold putD putF
    by_cases q : g = f
    · rw [if_pos q, if_pos q]
      exact ⟨rfl, r, h2⟩
    · rw [if_neg q, if_neg q]
      exact ⟨rfl, h1, RepF.put r h2⟩
  | [], _ :: _, h => h.elim
  | _ :: _, [], h => h.elim
def ownO (env : Env) (i : Nat) : Option (Nat × List (Str × D)) := match env[i]? with
  | some (some (.obj c fs, true)) => some (c, fs)
  | _ => none
/-- x.f = e of an own object -/
def sFset (m : Bool) (hd : List Nat) (i : Nat) (cs : List Nat) (f : Str) (e : Env → M D) : SM := onD m hd e fun d env g => match ownO env i with
  | some (c, fs) => if c ∈ cs ∧ fs.length < 1000 then .ok (.nx (env.set i (some (.obj c (putD f d fs), true)))) g else .stuck
  | none => .stuck
theorem ownO_some {env : Env} {i c : Nat} {fs : List (Str × D)} (h : ownO env i = some (c, fs)) : env[i]? = some (some (.obj c fs, true)) := by
  unfold ownO at h
  split at h
  · cases h
    assumption
  · cases h
section
variable {S : Sx} {Wx : WX} {W0 : Gh} {H0 : Hp} {ex : List Addr} {F : Gh} {m : Bool} {X : Cx}
theorem noSwapA {e o : Expr} {f : Str} {p : Pos} {l : Nat} {env : PySem.Env} (h : notComp e = true) : swapsWith e (some (.Attribute o f p)) l env = pure false := noSwap h
theorem ps_fsetD (hm : m = false → ex = []) (K : X.K = S.K) {hd cs : List Nat} {i : Nat} {x f : Str} {e : Expr} {fe : Env → M D} {pos p1 pos' : Pos} (hi : X.N[i]? = some x) (hv : Vis X.env.scope x) (h1 : (x == ("__debug__" : Str)) = false) (h2 : (x == ("__classdict__" : Str)) = false)
    (hcl : ∀ c ∈ cs, Cls S.K (S.cls c) ∧ NoAttr S.K (S.cls c) f) (h : PE X e (tD S Wx fe)) (hc : notComp e = true) : PS X (.Assign [.Attribute (.Name x p1) f pos'] e pos) (tS S Wx W0 H0 ex F (sFset m hd i cs f fe)) :=
  impS (ps_fld (pe_var hi hv h1 h2) h (noSwap hc)) fun D σ H ⟨env, W, g, E, q⟩ => by
    obtain ⟨env1, W1, g1, st, q1⟩ := E.onD hm q
    refine ⟨env1, W1, g1, st, q1.mono fun d g2 W2 H2 _ _ _ q2 v rv => ?_⟩
    obtain ⟨d', env', W', g', E', r', q3, _⟩ := q2 v rv
    cases ho : ownO env' i with
    | none => rw [ho] at q3; exact q3.elim
    | some cf =>
      obtain ⟨c, fs⟩ := cf
      rw [ho] at q3
      replace q3 : OutS S Wx W0 H0 ex F (if c ∈ cs ∧ fs.length < 1000 then .ok (.nx (env'.set i (some (.obj c (putD f d' fs), true)))) g' else .stuck) D := q3
      by_cases hz : c ∈ cs ∧ fs.length < 1000
      · rw [if_pos hz] at q3
        obtain ⟨v0, k1, p, o, rfl, _, _, h4, ⟨dx, vfs, rfl, rf⟩, _⟩ := E'.own i _ (ownO_some ho)
        refine ⟨.ref p, k1, p, _, dx, vfs, rfl, h4, by rw [K]; exact (hcl c hz.1).1, by rw [K]; exact (hcl c hz.1).2, by rw [← rf.length]; exact hz.2, ?_⟩
        exact q3 _ _ _ (E'.write (ownO_some ho) k1 ⟨dx, _, rfl, rf.put r'⟩)
      · rw [if_neg hz] at q3
        exact q3.elim
end

/-! ### a def's promise by its body -/
def envOf (n : Nat) (ds : List D) : Env := ds.map (fun d => some (d, false)) ++ List.replicate n none
def endM (r : RS) : R D := match r with
  | .ok (.rt d _) g => .ok d g
  | .ok (.nx _) g => .ok .non g
  | .err e _ g => .err e g
  | _ => .stuck
/-- n: how many slots that are no parameters -/
def runD (n : Nat) (s : SM) : List D → M D := fun ds g => endM (s (envOf n ds) g)
def self0 (env : Env) : Option D := match env[0]? with
  | some (some (d, true)) => some d
  | _ => none
def endX (r : RS) : RM := match r with
  | .ok (.rt d env) g => (match self0 env with | some o => .ok d o g | none => .stuck)
  | .ok (.nx env) g => (match self0 env with | some o => .ok .non o g | none => .stuck)
  | .err e env g => (match self0 env with | some o => .err e o g | none => .stuck)
  | _ => .stuck
def envX (n : Nat) (o : D) (ds : List D) : Env := some (o, true) :: envOf n ds
def runX (n : Nat) (s : SM) : D → List D → G → RM := fun o ds g => endX (s (envX n o ds) g)
theorem start_get {N : List Str} {vs : List V} {i : Nat} {v : V} (h : vs[i]? = some v) : (L2.start N vs)[i]? = some (some v) := by
  unfold L2.start
  have hi : i < vs.length := (List.getElem?_eq_some_iff.mp h).1
  rw [List.getElem?_append_left (by simpa using hi), List.getElem?_map, h]
  rfl
section
variable {P : Program} {w : World} {mg : Str → Option Value} {base : Heap} {S : Sx} {lev : Nat}
/-- where a statement stands -/
structure CxtS (P : Program) (w : World) (mg : Str → Option Value) (base : Heap) (S : Sx) (lev : Nat) (N : List Str) (sc : Scope) (fn : Str → Bool) (Wx : WX) (X : Cx) : Prop extends Cxt P w mg base S lev N sc fn Wx X where
  po : PassesOwn (model X.prog X.w) X.A X.env X.xe
  st : X.stack = X.env :: X.outer
  fr : X.env.frame = some X.env.locals
theorem envOf_at {n i : Nat} {ds : List D} {d : D} {b : Bool} (h : (envOf n ds)[i]? = some (some (d, b))) : b = false ∧ ds[i]? = some d := by
  unfold envOf at h
  by_cases hi : i < ds.length
  · rw [List.getElem?_append_left (by simpa using hi), List.getElem?_map] at h
    rw [List.getElem?_eq_getElem hi] at h ⊢
    cases h
    exact ⟨rfl, rfl⟩
  · rw [List.getElem?_append_right (by simpa using hi), List.getElem?_replicate] at h
    split at h <;> cases h
theorem envOk_start {W : Gh} {H : Hp} {g : G} {N : List Str} {ds : List D} {vs : List V} (z : ZIn W H) (p : PoolIn W H g) (r : Reps S W ds vs) : EnvOk S W H [] W W (envOf (N.length - vs.length) ds) (L2.start N vs) H g := by
  refine ⟨z, p, .refl, .refl, fun i d h => ?_, fun i d h => ?_, fun i j d e v h1 => ?_, fun i d p h1 => ?_, ?_, fun p h => by cases h⟩
  · obtain ⟨_, h⟩ := envOf_at h
    obtain ⟨v, h1, h2⟩ := r.get h
    exact ⟨v, start_get h1, h2⟩
  · cases (envOf_at h).1
  · cases (envOf_at h1).1
  · cases (envOf_at h1).1
  · unfold envOf L2.start
    simp [r.length]
/-- a def, by its body's evaluation -/
theorem fnOkD {x qual : Str} {params : Arguments} {body : List Stmt} {scope : Scope} {f : Addr} {fd : FuncData} {N ps : List Str} {sb : SM} (F : FunD S.K x qual params body scope [] [] f fd) (Sc : FnScope N ps scope)
    (hb : ∀ (X : Cx) (Wx : WX) (W0 : Gh) (H0 : Hp), CxtS P w mg base S lev N scope (fun _ => true) Wx X → PSs X body (tS S Wx W0 H0 [] W0 sb)) (hlv : lev < 40 := by decide) :
    FnOk P w S.K mg base (L2.CX P w) (lev + 1) f fd ps (spD S ps.length (runD (N.length - ps.length) sb)) := by
  refine F.ok Sc (fun vs H Q E h => h.1) fun cdv A outer s H vs Q E hr hsp => ?_
  obtain ⟨hl, W, g, ds, z, p, r, q⟩ := hsp
  refine ⟨tS S (fun c dx _ H' => E c dx H') W H [] W sb, hb _ _ W H ⟨⟨rfl, rfl, rfl, rfl, rfl, rfl, Sc.nd, rfl, fun _ _ => rfl, rfl, L2.takes_of rfl rfl rfl rfl, hr, fun h => absurd h (by omega)⟩, L2.passes_of rfl, rfl, rfl⟩, envOf (N.length - ps.length) ds, W, g, ?_, ?_⟩
  · have := envOk_start (N := N) z p r
    rw [hl] at this
    exact this
  · unfold runD at q
    revert q
    cases sb (envOf (N.length - ps.length) ds) g with
    | stuck => exact fun q => q
    | err e env g' => exact fun q σ W' H' c dx E' r' => q W' H' c dx E'.ext E'.zin E'.pool r'
    | ok f g' =>
      cases f with
      | nx env => exact fun q σ W' H' E' => q W' H' E'.ext E'.zin E'.pool .non rfl
      | rt d env => exact fun q v σ W' H' E' r' => q W' H' E'.ext E'.zin E'.pool v r'
      | bk env => exact fun q => q.elim
      | ct env => exact fun q => q.elim
theorem envX_at {n i : Nat} {o d : D} {ds : List D} {b : Bool} (h : (envX n o ds)[i]? = some (some (d, b))) : (i = 0 ∧ d = o ∧ b = true) ∨ ∃ j, i = j + 1 ∧ b = false ∧ ds[j]? = some d := by
  cases i with
  | zero => cases h; exact .inl ⟨rfl, rfl, rfl⟩
  | succ j =>
    obtain ⟨h1, h2⟩ := envOf_at (show (envOf n ds)[j]? = some (some (d, b)) from h)
    exact .inr ⟨j, rfl, h1, h2⟩
theorem self_at {W0 : Gh} {H0 : Hp} {x : Addr} {F W : Gh} {env : Env} {σ : L2.St} {H : Hp} {g : G} {o : D} (E : EnvOk S W0 H0 [x] F W env σ H g) (h : self0 env = some o) : W.Z x = none ∧ ¬ inPool W x ∧ ∃ o', H x = some o' ∧ RepO S W o o' := by
  have h0 : env[0]? = some (some (o, true)) := by
    unfold self0 at h
    split at h
    · cases h
      assumption
    · cases h
  obtain ⟨v, k1, p, o', rfl, k2, k3, k4, k5, _⟩ := E.own 0 o h0
  have := E.sl0 x (List.mem_singleton.mpr rfl) o h0
  rw [k1] at this
  cases this
  exact ⟨k2, k3, o', k4, k5⟩
/-- a method that changes its object -/
theorem fnOkX {x qual : Str} {params : Arguments} {body : List Stmt} {scope : Scope} {f : Addr} {fd : FuncData} {N ps : List Str} {p0 : Str} {sb : SM} (F : FunD S.K x qual params body scope [] [] f fd) (Sc : FnScope N (p0 :: ps) scope)
    (hb : ∀ (X : Cx) (Wx : WX) (W0 : Gh) (H0 : Hp) (x : Addr), H0 x ≠ none → CxtS P w mg base S lev N scope (fun _ => true) Wx X → PSs X body (tS S Wx W0 H0 [x] W0 sb)) (hlv : lev < 40 := by decide) :
    FnOk P w S.K mg base (L2.CX P w) (lev + 1) f fd (p0 :: ps) (spX S ps.length (runX (N.length - (ps.length + 1)) sb)) := by
  refine F.ok Sc (fun vs H Q E h => h.1) fun cdv A outer s H vs Q E hr hsp => ?_
  obtain ⟨hl, x, us, W, g, d, o, ds, rfl, z, p, hz, np, ho, ro, r, q⟩ := hsp
  have hl : us.length = ps.length := by simpa using hl
  refine ⟨tS S (fun c dx _ H' => E c dx H') W H [x] W sb, hb _ _ W H x (by rw [ho]; simp) ⟨⟨rfl, rfl, rfl, rfl, rfl, rfl, Sc.nd, rfl, fun _ _ => rfl, rfl, L2.takes_of rfl rfl rfl rfl, hr, fun h => absurd h (by omega)⟩, L2.passes_of rfl, rfl, rfl⟩, envX (N.length - (ps.length + 1)) d ds, W, g, ?_, ?_⟩
  · refine ⟨z, p, .refl, .refl, fun i d' h => ?_, fun i d' h => ?_, fun i j d' e v h1 h2 h3 h4 => ?_, fun i d' p h1 _ _ => ?_, ?_, fun p hp d' h => ?_⟩
    · rcases envX_at h with ⟨_, _, h⟩ | ⟨j, rfl, _, h⟩
      · cases h
      · obtain ⟨v, h1, h2⟩ := r.get h
        exact ⟨v, start_get (vs := .ref x :: us) h1, h2⟩
    · rcases envX_at h with ⟨rfl, rfl, _⟩ | ⟨j, rfl, h, _⟩
      · exact ⟨.ref x, rfl, x, o, rfl, hz, np, ho, ro, .inr (List.mem_singleton.mpr rfl)⟩
      · cases h
    · rcases envX_at h1 with ⟨rfl, _⟩ | ⟨_, _, h, _⟩
      · rcases envX_at h2 with ⟨rfl, _⟩ | ⟨_, _, h, _⟩
        · rfl
        · cases h
      · cases h
    · rcases envX_at h1 with ⟨rfl, _⟩ | ⟨_, _, h, _⟩
      · rfl
      · cases h
    · unfold envX envOf L2.start
      simp [r.length, hl]
    · obtain rfl := List.mem_singleton.mp hp
      rfl
  · unfold runX at q
    revert q
    cases sb (envX (N.length - (ps.length + 1)) d ds) g with
    | stuck => exact fun q => q
    | err e env g' =>
      intro q σ W' H' c dx E' r'
      unfold endX at q
      simp only at q
      cases hs : self0 env with
      | none => rw [hs] at q; exact q.elim
      | some o' =>
        rw [hs] at q
        obtain ⟨a1, a2, a3⟩ := self_at E' hs
        exact q W' H' c dx E'.ext E'.zin E'.pool a1 a2 a3 r'
    | ok f g' =>
      cases f with
      | nx env =>
        intro q σ W' H' E'
        unfold endX at q
        simp only at q
        cases hs : self0 env with
        | none => rw [hs] at q; exact q.elim
        | some o' =>
          rw [hs] at q
          obtain ⟨a1, a2, a3⟩ := self_at E' hs
          exact q W' H' .non E'.ext E'.zin E'.pool a1 a2 a3 rfl
      | rt d' env =>
        intro q v σ W' H' E' r'
        unfold endX at q
        simp only at q
        cases hs : self0 env with
        | none => rw [hs] at q; exact q.elim
        | some o' =>
          rw [hs] at q
          obtain ⟨a1, a2, a3⟩ := self_at E' hs
          exact q W' H' v E'.ext E'.zin E'.pool a1 a2 a3 r'
      | bk env => exact fun q => q.elim
      | ct env => exact fun q => q.elim
end
end Dv
end
section
set_option maxHeartbeats 400000
/-! DvOa: the pool, written. -/
namespace Dv
open PySem PySem.Spec PyProof.Rows L2
def slotD (env : Env) (i : Nat) : Option D := match env[i]? with
  | some (some (d, false)) => some d
  | _ => none
theorem slotD_some {env : Env} {i : Nat} {d : D} (h : slotD env i = some d) : env[i]? = some (some (d, false)) := by
  unfold slotD at h
  split at h
  · cases h
    assumption
  · cases h
def isPool : D → Bool
  | .pool => true
  | _ => false
def isCel : D → Bool
  | .cel => true
  | _ => false
theorem isPool_ok {d : D} (h : isPool d = true) : d = .pool := by
  cases d <;> first
    | rfl
    | cases h
theorem isCel_ok {d : D} (h : isCel d = true) : d = .cel := by
  cases d <;> first
    | rfl
    | cases h
theorem asI_ok {d : D} {z : Int} (h : asI d = some z) : d = .int z := by
  cases d <;> first
    | (cases h; rfl)
    | cases h
/-- x[1] = e of the pool -/
def sPset (m : Bool) (hd : List Nat) (i : Nat) (f : Env → M D) : SM := onD m hd f fun d env g => match asI d, slotD env i, g with
  | some z, some s, some p => if isPool s = true then .ok (.nx env) (some { p with cnt := z }) else .stuck
  | _, _, _ => .stuck
/-- x[0] = e of the cells -/
def sCset (m : Bool) (hd : List Nat) (i : Nat) (f : Env → M D) : SM := onD m hd f fun d env g => match asI d, slotD env i, g with
  | some z, some s, some p => if isCel s = true ∧ p.cells ≠ [] then .ok (.nx env) (some { p with cells := z :: p.cells.tail }) else .stuck
  | _, _, _ => .stuck
/-- x.pop(0) of the cells -/
def sCpop (i : Nat) : SM := fun env g => match slotD env i, g with
  | some s, some p => if isCel s = true ∧ p.cells ≠ [] then .ok (.nx env) (some { p with cells := p.cells.tail }) else .stuck
  | _, _ => .stuck
def noOwn (env : Env) : Bool := env.all fun o => match o with
  | some (_, true) => false
  | _ => true
def intsOf : List D → Option (List Int)
  | [] => some []
  | d :: r => match asI d, intsOf r with
    | some z, some zs => some (z :: zs)
    | _, _ => none
def mkPool (da db dc : D) : Option PSt := match asI da, asI db, dc with
  | some s, some c, .lst ds => (intsOf ds).map fun cs => ⟨s, c, cs⟩
  | _, _, _ => none
/-- return [a, b, c] of a new pool -/
def sRetP (fa fb fc : Env → M D) : SM := fun env g => if noOwn env = true then (match (fa env).bind (fun da => (fb env).bind fun db => (fc env).bind fun dc => .ret (da, db, dc)) g with
  | .ok (da, db, dc) none => (match mkPool da db dc with
    | some p => .ok (.rt .pool env) (some p)
    | none => .stuck)
  | .err e g' => errS e env g'
  | _ => .stuck) else .stuck
theorem intsOf_ok {S : Sx} {W : Gh} : ∀ {ds : List D} {zs : List Int} {vs : List V}, intsOf ds = some zs → Reps S W ds vs → vs = zs.map V.int
  | [], _, [], h, _ => by cases h; rfl
  | d :: ds, zs, v :: vs, h, r => by
    unfold intsOf at h
    split at h
    · rename_i z zs' h1 h2
      cases h
      obtain rfl := asI_ok h1
      obtain rfl : v = .int z := r.1
      rw [intsOf_ok h2 r.2]
      rfl
    · cases h
  | [], _, _ :: _, _, r => r.elim
  | _ :: _, _, [], _, r => r.elim
section
variable {S : Sx} {Wx : WX} {W0 : Gh} {H0 : Hp} {ex : List Addr} {F W : Gh} {m : Bool} {X : Cx} {env : Env} {σ : L2.St} {H : Hp}
theorem EnvOk.poolW {p p' : PSt} {q : Addr} {o : HO} (E : EnvOk S W0 H0 ex F W env σ H (some p)) (hq : inPool W q) (hP : PoolIn W (upd H q o) (some p')) : EnvOk S W0 H0 ex F W env σ (upd H q o) (some p') := by
  have hz := (E.pool.lt hq).2
  refine ⟨E.zin.grow hz, hP, ⟨E.ext.le, fun a u h np nx => ?_, fun a h => ?_, E.ext.new, E.ext.newp⟩, E.flo, E.frz, fun i d h => ?_, E.apart, E.slf, E.len, E.sl0⟩
  · have : a ≠ q := fun e => by
      subst e
      rcases E.ext.newp a hq with k | k
      · exact np k
      · rw [h] at k; cases k
    rw [upd_ne this]
    exact E.ext.keep a u h np nx
  · by_cases e : a = q
    · subst e; rw [upd_same]; simp
    · rw [upd_ne e]; exact E.ext.there a h
  · obtain ⟨v, k1, a, o', rfl, k2, k3, k4, k5, k6⟩ := E.own i d h
    have : a ≠ q := fun e => k3 (by rw [e]; exact hq)
    exact ⟨.ref a, k1, a, o', rfl, k2, k3, by rw [upd_ne this]; exact k4, k5, k6⟩
theorem ixN0 {n : Nat} {i : Int} (h0 : 0 ≤ i) (h : i < n) : L2.ixN n i = some i.toNat := by
  unfold L2.ixN
  rw [if_pos h0, if_pos h]
theorem ps_psetD (hm : m = false → ex = []) {hd : List Nat} {i : Nat} {x : Str} {e : Expr} {f : Env → M D} {k : Nat} {pos p1 p2 p3 : Pos} (hi : X.N[i]? = some x) (hv : Vis X.env.scope x) (h1 : (x == ("__debug__" : Str)) = false) (h2 : (x == ("__classdict__" : Str)) = false)
    (h : PE X e (tD S Wx f)) (hc : notComp e = true) : PS X (.Assign [.Subscript (.Name x p1) (.Constant (.int 1) k p2) p3] e pos) (tS S Wx W0 H0 ex F (sPset m hd i f)) :=
  impS (ps_asg h (pg_sub (pe_var hi hv h1 h2) pe_int set_list) (by unfold swapsWithSole; exact noSwap hc) rfl rfl) fun D σ H ⟨env, W, g, E, q⟩ => by
    obtain ⟨env1, W1, g1, st, q1⟩ := E.onD hm q
    refine ⟨env1, W1, g1, st, q1.mono fun d g2 W2 H2 _ _ _ q2 v rv => ?_⟩
    obtain ⟨d', env', W', g', E', r', q3, _⟩ := q2 v rv
    split at q3
    · rename_i z s p hz hs
      obtain rfl := asI_ok hz
      obtain rfl : v = .int z := r'
      split at q3
      · rename_i hp
        obtain rfl := isPool_ok hp
        obtain ⟨u, k1, A, l, eW, rfl⟩ := E'.frz i _ (slotD_some hs)
        obtain ⟨A', l', eW', ne, j1, j2, hA, hl⟩ := E'.pool
        rw [eW] at eW'
        cases eW'
        refine ⟨.ref A, k1, A, _, 1, 1, rfl, rfl, hA, rfl, ?_⟩
        exact q3 _ _ _ (E'.poolW ⟨A, l, eW, .inl rfl⟩ ⟨A, l, eW, ne, j1, j2, upd_same, by rw [upd_ne ne.symm]; exact hl⟩)
      · exact q3.elim
    · exact q3.elim
theorem ps_csetD (hm : m = false → ex = []) {hd : List Nat} {i : Nat} {x : Str} {e : Expr} {f : Env → M D} {k : Nat} {pos p1 p2 p3 : Pos} (hi : X.N[i]? = some x) (hv : Vis X.env.scope x) (h1 : (x == ("__debug__" : Str)) = false) (h2 : (x == ("__classdict__" : Str)) = false)
    (h : PE X e (tD S Wx f)) (hc : notComp e = true) : PS X (.Assign [.Subscript (.Name x p1) (.Constant (.int 0) k p2) p3] e pos) (tS S Wx W0 H0 ex F (sCset m hd i f)) :=
  impS (ps_asg h (pg_sub (pe_var hi hv h1 h2) pe_int set_list) (by unfold swapsWithSole; exact noSwap hc) rfl rfl) fun D σ H ⟨env, W, g, E, q⟩ => by
    obtain ⟨env1, W1, g1, st, q1⟩ := E.onD hm q
    refine ⟨env1, W1, g1, st, q1.mono fun d g2 W2 H2 _ _ _ q2 v rv => ?_⟩
    obtain ⟨d', env', W', g', E', r', q3, _⟩ := q2 v rv
    split at q3
    · rename_i z s p hz hs
      obtain rfl := asI_ok hz
      obtain rfl : v = .int z := r'
      split at q3
      · rename_i hp
        obtain ⟨hp, hne⟩ := hp
        obtain rfl := isCel_ok hp
        obtain ⟨u, k1, A, l, eW, rfl⟩ := E'.frz i _ (slotD_some hs)
        obtain ⟨A', l', eW', ne, j1, j2, hA, hl⟩ := E'.pool
        rw [eW] at eW'
        cases eW'
        have hlen : 0 < p.cells.length := List.length_pos_iff.mpr hne
        refine ⟨.ref l, k1, l, _, 0, 0, rfl, rfl, hl, by rw [List.length_map]; exact ixN0 (Int.le_refl 0) (by exact_mod_cast hlen), ?_⟩
        refine q3 _ _ _ (E'.poolW ⟨A, l, eW, .inr rfl⟩ ⟨A, l, eW, ne, j1, j2, by rw [upd_ne ne]; exact hA, ?_⟩)
        rw [upd_same]
        cases hcells : p.cells with
        | nil => exact absurd hcells hne
        | cons c r => rfl
      · exact q3.elim
    · exact q3.elim
theorem ps_cpopD {i : Nat} {x : Str} {k : Nat} {pos p1 p2 ap cp : Pos} (hi : X.N[i]? = some x) (hv : Vis X.env.scope x) (h1 : (x == ("__debug__" : Str)) = false) (h2 : (x == ("__classdict__" : Str)) = false) (hl : (ap.endLine == cp.line) = true) :
    PS X (.Expr (.Call (.Attribute (.Name x p1) "pop" ap) [.Constant (.int 0) k p2] [] cp) pos) (tS S Wx W0 H0 ex F (sCpop i)) :=
  impS (ps_expr (pe_bm PySem.F.plainAttrs_list PySem.F.slot_list_pop PySem.F.type_list_pop mt_popAt (pe_var hi hv h1 h2) (pa_cons pe_int pa_nil (starEach_plain rfl)) rfl (few1 rfl) hl (starEach_plain rfl) rfl)) fun D σ H ⟨env, W, g, E, q⟩ => by
    unfold sCpop at q
    split at q
    · rename_i s p hs
      split at q
      · rename_i hp
        obtain ⟨hp, hne⟩ := hp
        obtain rfl := isCel_ok hp
        obtain ⟨u, k1, A, l, eW, rfl⟩ := E.frz i _ (slotD_some hs)
        obtain ⟨A', l', eW', ne, j1, j2, hA, hl⟩ := E.pool
        rw [eW] at eW'
        cases eW'
        cases hcells : p.cells with
        | nil => exact absurd hcells hne
        | cons c r =>
          rw [hcells] at hl q
          refine ⟨.ref l, k1, .inl ⟨rfl, _, .inl (.inl hl)⟩, l, _, 0, 0, _, rfl, rfl, hl, by decide, by decide, ?_, rfl, ?_⟩
          · simp [seqIndex?]
          · exact q _ _ _ (E.poolW ⟨A, l, eW, .inr rfl⟩ ⟨A, l, eW, ne, j1, j2, by rw [upd_ne ne]; exact hA, upd_same⟩)
      · exact q.elim
    · exact q.elim
theorem noOwn_at {i : Nat} {d : D} {b : Bool} (h : noOwn env = true) (he : env[i]? = some (some (d, b))) : b = false := by
  have := List.all_eq_true.mp h _ (List.mem_of_getElem? he)
  cases b with
  | false => rfl
  | true => cases this
theorem ps_retPD {ea eb ec : Expr} {fa fb fc : Env → M D} {pos pos' : Pos} (ha : PE X ea (tD S Wx fa)) (hb : PE X eb (tD S Wx fb)) (hc : PE X ec (tF S Wx fc)) (h1 : plainX ea = true) (h2 : plainX eb = true) (h3 : plainX ec = true) :
    PS X (.Return (some (.List [ea, eb, ec] pos')) pos) (tS S Wx W0 H0 ex F (sRetP fa fb fc)) :=
  impS (ps_ret (pe_lst (pa_cons ha (pa_cons hb (pa_cons hc pa_nil (starEach_plain h3)) (starEach_plain h2)) (starEach_plain h1)))) fun Dn σ H ⟨env, W, g, E, q⟩ => by
    unfold sRetP at q
    split at q
    · rename_i hno
      have st : StOk S W env σ H g := ⟨E.zin, E.pool, fun i d b h => by
        obtain rfl := noOwn_at hno h
        exact E.frz i d h, E.len⟩
      have oErr : ∀ {e : Ex} {g' : G}, OutS S Wx W0 H0 ex F (errS e env g') Dn → ∀ W' H' c dx, Ext [] W H W' H' → ZIn W' H' → PoolIn W' H' g' → ExRep S W' H' e c dx → Wx c dx σ H' := by
        intro e g' q W' H' c dx e' z' p' r'
        unfold errS at q
        split at q
        · exact q σ W' H' c dx (E.step e' z' p') r'
        · exact q.elim
      refine ⟨env, W, g, st, ?_⟩
      unfold M.bind at q
      cases ea1 : fa env g with
      | stuck => rw [ea1] at q; exact q.elim
      | err x g1 => rw [ea1] at q; exact oErr q
      | ok da g1 =>
        rw [ea1] at q
        intro W1 H1 e1 z1 p1 va ra
        refine ⟨env, W1, g1, st.next e1 z1 p1, ?_⟩
        simp only at q
        cases eb1 : fb env g1 with
        | stuck => rw [eb1] at q; exact q.elim
        | err x g2 => rw [eb1] at q; exact fun W' H' c dx e' z' p' r' => oErr q W' H' c dx (e1.trans e') z' p' r'
        | ok db g2 =>
          rw [eb1] at q
          intro W2 H2 e2 z2 p2 vb rb
          refine ⟨env, W2, g2, (st.next e1 z1 p1).next e2 z2 p2, ?_⟩
          simp only at q
          cases ec1 : fc env g2 with
          | stuck => rw [ec1] at q; exact q.elim
          | err x g3 => rw [ec1] at q; exact fun W' H' c dx e' z' p' r' => oErr q W' H' c dx ((e1.trans e2).trans e') z' p' r'
          | ok dc g3 =>
            rw [ec1] at q
            intro W3 H3 e3 z3 p3 l o hl2 hlz hlp hlo rc
            simp only [M.ret] at q
            cases g3 with
            | some _ => exact q.elim
            | none =>
              simp only at q
              split at q
              · rename_i p hp
                unfold mkPool at hp
                split at hp
                · rename_i s c ds hs hc'
                  obtain rfl := asI_ok hs
                  obtain rfl := asI_ok hc'
                  obtain ⟨cs, hcs, rfl⟩ := Option.map_eq_some_iff.mp hp
                  obtain ⟨vs, rfl, rvs⟩ := rc
                  have hvs := intsOf_ok hcs rvs
                  subst hvs
                  obtain rfl : va = .int s := ra
                  obtain rfl : vb = .int c := rb
                  refine ⟨by show 3 ≤ sizeLine; rw [sizeLine_eq]; omega, fun a ha => ?_⟩
                  have hl0 : H l = none := fresh_back e1 (fresh_back e2 hl2)
                  have ha0 : H a = none := fresh_back e1 (fresh_back e2 (fresh_back e3 ha))
                  have nel : a ≠ l := fun e => by subst e; rw [ha] at hlo; cases hlo
                  have npl : W3.pl = none := p3
                  have hzW : ∀ {b u}, W3.Z b = some u → b ≠ a := fun {b u} h e => by subst e; rw [z3 _ _ h] at ha; cases ha
                  have le3 : Le W3 { W3 with pl := some (a, l) } := ⟨fun _ _ h => h, fun x h => by rw [npl] at h; cases h⟩
                  have ee := (e1.trans e2).trans e3
                  have E4 : EnvOk S W0 H0 ex F { W3 with pl := some (a, l) } env σ (upd H3 a (.lst [.int s, .int c, .ref l])) (some ⟨s, c, cs⟩) := by
                    refine E.step ⟨ee.le.trans le3, fun b u h np nx => ?_, fun b h => ?_, fun b u h => ee.new b u h, fun b h => ?_⟩ (fun b u h => ?_) ⟨a, l, rfl, nel, noZ z3 ha, hlz, upd_same, by rw [upd_ne nel.symm]; exact hlo⟩
                    · have : b ≠ a := fun e => by subst e; rw [ha0] at h; cases h
                      rw [upd_ne this]
                      exact ee.keep b u h np nx
                    · by_cases e : b = a
                      · subst e; rw [upd_same]; simp
                      · rw [upd_ne e]; exact ee.there b h
                    · obtain ⟨a', l', e', h'⟩ := h
                      cases e'
                      rcases h' with rfl | rfl
                      · exact .inr ha0
                      · exact .inr hl0
                    · rw [upd_ne (hzW h)]
                      exact z3 b u h
                  exact q _ σ _ _ E4 ⟨a, l, rfl, rfl⟩
                · cases hp
              · exact q.elim
    · exact q.elim
end
end Dv
end
section
set_option maxHeartbeats 800000
/-! DvOb: an item of an own list stored; a row drawn out of an own list. -/
namespace Dv
open PySem PySem.Spec PyProof.Rows L2
/-- x[k] = e of an own list: e is told first, then k -/
def sPut (m : Bool) (hd : List Nat) (i : Nat) (fk f : Env → M D) : SM := onD m hd f fun d env g => match ownL env i with
  | none => .stuck
  | some _ => if imm d = true then onD m hd fk (fun k env g => match asI k, ownL env i with
    | some z, some ds => (match L2.ixN ds.length z with
      | some j => .ok (.nx (env.set i (some (.lst (ds.set j d), true)))) g
      | none => .stuck)
    | _, _ => .stuck) env g else .stuck
/-- taken out, one after another -/
def popGo (s : List D → M D) (dp : D) : Nat → List D → M (List D × List D)
  | 0, l => .ret ([], l)
  | n + 1, l => (s [dp, .int l.length]).safe.bind fun d => match d with
    | .int j => if 0 ≤ j ∧ j < l.length then (popGo s dp n (l.eraseIdx j.toNat)).bind fun r => .ret (l.getD j.toNat .non :: r.1, r.2) else .fail
    | _ => .fail
/-- return tuple([x.pop(f(p, len(x))) for k in range(..)]) -/
def sRow (m : Bool) (i ip : Nat) (s : List D → M D) (f : Env → M (List D)) : SM := onI m [] true f fun ks env g => match ownL env i, slotD env ip with
  | some ds, some dp => if ks.length ≤ sizeLine ∧ ds.length ≤ sizeLine then (match popGo s dp ks.length ds g with
    | .ok (xs, l) g' => .ok (.rt (.tup xs) (env.set i (some (.lst l, true)))) g'
    | _ => .stuck) else .stuck
  | _, _ => .stuck
theorem safe_ok' {α : Type} {m : M α} {g g' : G} {a : α} (h : m.safe g = .ok a g') : m g = .ok a g' := safe_ok h
section
variable {S : Sx} {Wx : WX} {W0 : Gh} {H0 : Hp} {ex : List Addr} {F W W' : Gh} {m : Bool} {X : Cx} {env : Env} {σ : L2.St} {H H' : Hp} {g g' : G}
theorem OutS.floor {F' : Gh} {r : RS} {Dn : Ends} (l : Le F F') (q : OutS S Wx W0 H0 ex F r Dn) : OutS S Wx W0 H0 ex F' r Dn := by
  cases r with
  | stuck => exact q
  | err e env g => exact fun σ W H c dx E r => q σ W H c dx (E.floor l) r
  | ok f g =>
    cases f with
    | nx e => exact fun σ W H E => q σ W H (E.floor l)
    | bk e => exact fun σ W H E => q σ W H (E.floor l)
    | ct e => exact fun σ W H E => q σ W H (E.floor l)
    | rt d e => exact fun v σ W H E r => q v σ W H (E.floor l) r
theorem ps_putD (hm : m = false → ex = []) {hd : List Nat} {i : Nat} {x : Str} {e ek : Expr} {f fk : Env → M D} {pos p1 p3 : Pos} (hi : X.N[i]? = some x) (hv : Vis X.env.scope x) (h1 : (x == ("__debug__" : Str)) = false) (h2 : (x == ("__classdict__" : Str)) = false)
    (h : PE X e (tD S Wx f)) (hk : PE X ek (tD S Wx fk)) (hc : notComp e = true) (hs : notSlice ek = true) :
    PS X (.Assign [.Subscript (.Name x p1) ek p3] e pos) (tS S Wx W0 H0 ex F (sPut m hd i fk f)) := by
  have hx : ∀ v, assign (.Subscript (.Name x p1) ek p3) X.env v = (do
      let ov ← holding [v] (eval (.Name x p1) X.env)
      let iv ← holding [v, ov] (eval ek X.env)
      standAt p3
      holding [v, ov, iv] (setItem ov iv v)
      release [v, ov, iv] []) := by
    intro v
    cases ek <;> first
      | rfl
      | cases hs
  refine impS (ps_asg h (pg_sub (pe_var hi hv h1 h2) hk set_list hx) (by unfold swapsWithSole; exact noSwap hc) rfl rfl) fun D σ H ⟨env, W, g, E, q⟩ => ?_
  obtain ⟨env1, W1, g1, st, q1⟩ := E.onD hm q
  refine ⟨env1, W1, g1, st, q1.mono fun d g2 W2 H2 _ _ _ q2 v rv => ?_⟩
  obtain ⟨d', env', W', g', E', r', q3, hi1, _⟩ := q2 v rv
  cases ho : ownL env' i with
  | none => rw [ho] at q3; exact q3.elim
  | some ds0 =>
    rw [ho] at q3
    obtain ⟨p, vs, k1, k2, k3⟩ := E'.ownList ho
    replace q3 := q3.floor E'.flo
    by_cases hd : imm d' = true
    · simp only [hd, if_true] at q3
      obtain ⟨env2, W3, g3, st3, q4⟩ := E'.refloor.onD hm q3
      refine ⟨.ref p, k1, env2, W3, g3, st3, q4.mono fun k g4 W4 H4 _ _ _ q5 u ru => ?_⟩
      obtain ⟨d2, env3, W5, g5, E5, r5, q6, _⟩ := q5 u ru
      split at q6
      · rename_i z ds hz hl
        obtain rfl := asI_ok hz
        obtain rfl : u = .int z := r5
        split at q6
        · rename_i j hj
          obtain ⟨p', vs', j1, j2, j3⟩ := E5.ownList hl
          rw [k1] at j1
          cases j1
          exact ⟨p, vs', z, j, rfl, rfl, j2, by rw [← j3.length]; exact hj, q6 _ _ _ (E5.write (ownL_some hl) k1 ⟨_, rfl, Reps.set (r'.mono E5.flo) j j3⟩)⟩
        · exact q6.elim
      · exact q6.elim
    · simp only [hd] at q3
      exact q3.elim
/-- an own object changed on the way -/
theorem EnvOk.stepX (E : EnvOk S W0 H0 ex F W env σ H g) {i : Nat} {d d' : D} {p : Addr} {o' : HO} (he : env[i]? = some (some (d, true))) (hs : σ[i]? = some (some (V.ref p))) (e : Ext [p] W H W' H') (z : ZIn W' H') (pl : PoolIn W' H' g')
    (hz : W'.Z p = none) (np : ¬ inPool W' p) (ho : H' p = some o') (ro : RepO S W' d' o') : EnvOk S W0 H0 ex F W' (env.set i (some (d', true))) σ H' g' := by
  obtain ⟨v, k1, p2, o, rfl, k2, k3, k4, k5, k6⟩ := E.own i d he
  rw [hs] at k1
  cases k1
  have hi : i < env.length := (List.getElem?_eq_some_iff.mp he).1
  have old : ∀ (j : Nat) (e : D) (b : Bool), (env.set i (some (d', true)))[j]? = some (some (e, b)) → (i = j ∧ e = d' ∧ b = true) ∨ (i ≠ j ∧ env[j]? = some (some (e, b))) := fun j e b h => by
    by_cases hj : i = j
    · subst hj
      rw [List.getElem?_set_self hi] at h
      cases h
      exact .inl ⟨rfl, rfl, rfl⟩
    · rw [List.getElem?_set_ne hj] at h
      exact .inr ⟨hj, h⟩
  have ext : Ext ex W0 H0 W' H' := by
    refine ⟨E.ext.le.trans e.le, fun a u h na nx => ?_, fun a h => e.there a (E.ext.there a h), fun a u h => ?_, fun a h => ?_⟩
    · have : a ≠ p := fun q => by
        subst q
        rcases k6 with k6 | k6
        · rw [h] at k6; cases k6
        · exact nx k6
      refine e.keep a u (E.ext.keep a u h na nx) (fun q => ?_) (by simpa using this)
      rcases E.ext.newp a q with k | k
      · exact na k
      · rw [h] at k; cases k
    · rcases e.new a u h with k | k
      · exact E.ext.new a u k
      · refine .inr ?_
        cases q : H0 a with
        | none => rfl
        | some u => exact absurd k (E.ext.there a (by rw [q]; simp))
    · rcases e.newp a h with k | k
      · exact E.ext.newp a k
      · refine .inr ?_
        cases q : H0 a with
        | none => rfl
        | some u => exact absurd k (E.ext.there a (by rw [q]; simp))
  refine ⟨z, pl, ext, E.flo.trans e.le, fun j c h => ?_, fun j c h => ?_, fun j k c c' u h1 h2 h3 h4 => ?_, fun j c q h1 h2 h3 => ?_, by simpa using E.len, fun q hq c h => ?_⟩
  · rcases old j c false h with ⟨_, _, h⟩ | ⟨_, h⟩
    · cases h
    · obtain ⟨v, j1, j2⟩ := E.frz j c h
      exact ⟨v, j1, j2.mono e.le⟩
  · rcases old j c true h with ⟨rfl, rfl, _⟩ | ⟨hj, h⟩
    · exact ⟨.ref p, hs, p, o', rfl, hz, np, ho, ro, k6⟩
    · obtain ⟨v, j1, p2, o2, rfl, j2, j3, j4, j5, j6⟩ := E.own j c h
      have ne : p2 ≠ p := fun q => by
        subst q
        exact hj (E.apart i j d c _ he h hs j1)
      refine ⟨.ref p2, j1, p2, o2, rfl, ?_, fun q => ?_, e.keep p2 o2 j4 j3 (by simpa using ne), j5.mono e.le, j6⟩
      · cases r : W'.Z p2 with
        | none => rfl
        | some u =>
          rcases e.new p2 u r with k | k
          · rw [j2] at k; cases k
          · rw [j4] at k; cases k
      · rcases e.newp p2 q with k | k
        · exact j3 k
        · rw [j4] at k; cases k
  · rcases old j c true h1 with ⟨r1, _⟩ | ⟨_, h1⟩
    · rcases old k c' true h2 with ⟨r2, _⟩ | ⟨hk, h2⟩
      · rw [← r1, ← r2]
      · subst r1
        exact E.apart _ k d c' u he h2 h3 h4
    · rcases old k c' true h2 with ⟨r2, _⟩ | ⟨_, h2⟩
      · subst r2
        exact E.apart j _ c d u h1 he h3 h4
      · exact E.apart j k c c' u h1 h2 h3 h4
  · rcases old j c true h1 with ⟨r1, _⟩ | ⟨_, h1⟩
    · subst r1
      exact E.slf _ d q he h2 h3
    · exact E.slf j c q h1 h2 h3
  · rcases old 0 c true h with ⟨rfl, _⟩ | ⟨_, h⟩
    · exact E.sl0 q hq _ he
    · exact E.sl0 q hq c h
theorem Ext.growX {ex : List Addr} {p : Addr} {o : HO} (e : Ext ex W H W' H') (hp : H p = none ∨ p ∈ ex) : Ext ex W H W' (upd H' p o) where
  le := e.le
  keep := fun a u h np nx => by
    have : a ≠ p := fun q => by
      subst q
      rcases hp with hp | hp
      · rw [h] at hp; cases hp
      · exact nx hp
    rw [upd_ne this]; exact e.keep a u h np nx
  there := fun a h => by
    by_cases q : a = p
    · subst q; rw [upd_same]; simp
    · rw [upd_ne q]; exact e.there a h
  new := e.new
  newp := e.newp
/-- what stands at a turn of a row's drawing -/
structure RowAt (S : Sx) (s : List D → M D) (dp : D) (W' : Gh) (H' : Hp) (p Dl : Addr) (n : Nat) (xs lf : List D) (gE : G) (k : Nat) (H2 : Hp) : Prop where
  ex : ∃ (W2 : Gh) (g2 : G) (acc rest left : List D) (av lv : List V), popGo s dp (n - k) left g2 = .ok (rest, lf) gE ∧ xs = acc ++ rest ∧ acc.length ≤ k ∧ left.length ≤ sizeLine ∧
    Ext [p] W' H' W2 H2 ∧ ZIn W2 H2 ∧ PoolIn W2 H2 g2 ∧ W2.Z p = none ∧ ¬ inPool W2 p ∧ H2 p = some (.lst lv) ∧ Reps S W2 left lv ∧ W2.Z Dl = none ∧ ¬ inPool W2 Dl ∧ H2 Dl = some (.lst av) ∧ Reps S W2 acc av
theorem wipe_one {σ2 : L2.St} {ik : Nat} {x : V} {vs : List Nat} (hk : ik ∈ vs) : wipe ((wipe σ vs).set ik (some x)) vs = wipe σ vs :=
  wipe_wipe (t := .one ik) (fun j hj => by rw [List.mem_singleton.mp hj]; exact hk) (by simp) fun j hj => List.getElem?_set_ne fun e => hj (by rw [e]; exact List.mem_singleton.mpr rfl)
theorem ixS {n : Nat} {j : Int} (h0 : 0 ≤ j) (h : j < n) : seqIndex? j n = some j.toNat := by
  unfold seqIndex?
  have h1 : ¬ j < 0 := by omega
  simp [h0, h1, h]
variable {P : Program} {w : World} {mg : Str → Option Value} {base : Heap} {lev : Nat} {N : List Str} {sc : Scope} {fn : Str → Bool} {T : Tx}
/-- its reading -/
def teRow (S : Sx) (i ip : Nat) (s : List D → M D) : TE := fun σ H Q => ∃ p vp lv, σ[i]? = some (some (V.ref p)) ∧ σ[ip]? = some (some vp) ∧ H p = some (.lst lv) ∧ spD S 2 s [vp, .int (lv.length : Nat)] H (fun u H' => rPopAt (.ref p) [u] H' Q) (fun _ _ _ => False)
theorem pe_rowE (C : Cxt P w mg base S lev N sc fn noW X) (TX : Txt T S mg) {k i ip : Nat} {xl xp xd : Str} {s : List D → M D} {cpos ap pl pl2 pl3 pd pd2 pp lp : Pos} (kn : Known P w S mg base k xd 2 s) (hk : k ≤ lev) (g1 : glB sc "len" = true) (g2 : glB sc xd = true)
    (v1 : N[i]? = some xl) (v2 : N[ip]? = some xp) (v3 : visB sc xl = true) (v4 : visB sc xp = true) (d1 : (xl == ("__debug__" : Str)) = false) (d2 : (xl == ("__classdict__" : Str)) = false) (d3 : (xp == ("__debug__" : Str)) = false) (d4 : (xp == ("__classdict__" : Str)) = false) (hl : (ap.endLine == cpos.line) = true) :
    PE X (.Call (.Attribute (.Name xl pl) "pop" ap) [.Call (.Name xd pd) [.Name xp pp, .Call (.Name "len" lp) [.Name xl pl2] [] pl3] [] pd2] [] cpos) (teRow S i ip s) := by
  have kn' : Known X.prog X.w S X.mg X.base k xd 2 s := by
    rw [C.hP, C.hw, C.hmg, C.hbase]; exact kn
  obtain ⟨f, fd, ps, F, hm, hkp, hb⟩ := kn'.ex
  rw [← C.K] at F hkp hb
  have n1 : X.N[i]? = some xl := by rw [C.hN]; exact v1
  have n2 : X.N[ip]? = some xp := by rw [C.hN]; exact v2
  obtain ⟨h4, h5⟩ := C.gl g2
  refine impE (pe_bm PySem.F.plainAttrs_list PySem.F.slot_list_pop PySem.F.type_list_pop mt_popAt (pe_var n1 (C.vis v3) d1 d2)
    (pa_cons (pe_callS F (C.room.mono hk) h4 hm hkp hb (passAt C.tk) (pa_cons (pe_var n2 (C.vis v4) d3 d4) (pa_cons (pe_callB call_len_seq (C.gl g1).1 (C.fr TX (by decide +kernel)) PySem.boot_len (pa_cons (pe_var n1 (C.vis v3) d1 d2) pa_nil (starEach_plain rfl)) (by decide +kernel) (by decide +kernel) (starEach_plain rfl) rfl) pa_nil (starEach_plain rfl)) (starEach_plain rfl)) h5 (starEach_plain rfl) rfl) pa_nil (starEach_plain rfl))
    rfl (few1 rfl) hl (starEach_plain rfl) rfl) fun σ H Q ⟨p, vp, lv, a1, a2, a3, a4⟩ => ?_
  exact ⟨.ref p, a1, .inl ⟨rfl, lv, .inl (.inl a3)⟩, vp, a2, .ref p, a1, p, lv, rfl, .inl (.inl (.inl a3)), a4⟩
theorem ps_rowD (C : Cxt P w mg base S lev N sc fn Wx X) (TX : Txt T S mg) (hm : m = false → ex = []) {k i ip ik : Nat} {xl xp xd : Str} {s : List D → M D} {f : Env → M (List D)} {tg iter : Expr} {scope : Scope} {own : List (Str × Nat)} {spos tp t2 lpos cpos ap pl pl2 pl3 pd pd2 pp lp : Pos}
    (kn : Known P w S mg base k xd 2 s) (hk : k ≤ lev) (g0 : glB sc "tuple" = true) (g1 : glB (relS scope sc) "len" = true) (g2 : glB (relS scope sc) xd = true)
    (v1 : N[i]? = some xl) (v2 : N[ip]? = some xp) (v3 : visB (relS scope sc) xl = true) (v4 : visB (relS scope sc) xp = true) (d1 : (xl == ("__debug__" : Str)) = false) (d2 : (xl == ("__classdict__" : Str)) = false) (d3 : (xp == ("__debug__" : Str)) = false) (d4 : (xp == ("__classdict__" : Str)) = false) (hl : (ap.endLine == cpos.line) = true)
    (hb : blkC N sc scope own = true) (o1 : ik ∈ own.map (·.2)) (o2 : i ∉ own.map (·.2)) (o3 : ip ∉ own.map (·.2)) (ht : chkNm N (relS scope sc) (fun y => scope.names.lookup y == some .cell) ik tg = true)
    (hi : PI X tg iter (tIr S Wx f)) (hs : ∀ x, foldedSetIterable iter X.env x = pure x) :
    PS X (.Return (some (.Call (.Name "tuple" tp) [.ListComp (.Call (.Attribute (.Name xl pl) "pop" ap) [.Call (.Name xd pd) [.Name xp pp, .Call (.Name "len" lp) [.Name xl pl2] [] pl3] [] pd2] [] cpos) [⟨tg, iter, [], 0⟩] scope lpos] [] t2)) spos)
      (tS S Wx W0 H0 ex F (sRow m i ip s f)) := by
  have hc : PE X (.ListComp (.Call (.Attribute (.Name xl pl) "pop" ap) [.Call (.Name xd pd) [.Name xp pp, .Call (.Name "len" lp) [.Name xl pl2] [] pl3] [] pd2] [] cpos) [⟨tg, iter, [], 0⟩] scope lpos) (tLc (tIr S Wx f) (gName ik) tYes (teRow S i ip s) (own.map (·.2))) := by
    refine pe_lc C.calm (by rw [C.hN]; exact C.nd) hi (by rw [C.hN, C.hsc]; exact blkOk_by hb) (fun sh H C' cl fp => ?_) (fun _ _ _ _ _ => pts_nil) (fun sh H C' cl fp => ?_) hs
    · have CB := C.blk sh H scope C' cl fp
      exact pg_tg CB.hN CB.nd CB.calm CB.hsc CB.hfn (t := .one ik) ht
    · have CB := C.blk sh H scope C' cl fp
      exact pe_rowE CB TX kn hk g1 g2 v1 v2 v3 v4 d1 d2 d3 d4 hl
  refine impS (ps_ret (pe_callTy call_tuple_of (C.gl g0).1 (C.fr TX (by decide +kernel)) (by decide +kernel) (pa_cons hc pa_nil (starEach_plain rfl)) (by decide +kernel) (by decide +kernel) (starEach_plain rfl) rfl)) fun Dn σ H ⟨env, W, g, E, q⟩ => ?_
  obtain ⟨env1, W1, g1', st, q1⟩ := E.onR q
  refine ⟨env1, W1, g1', st, q1.mono fun ks g2 W2 H2 _ _ _ q2 J hJ Dl hD => ?_⟩
  obtain ⟨ks', W', g', E', hJ', q3⟩ := q2 J hJ
  split at q3
  · rename_i ds dp hds hdp
    split at q3
    · rename_i hsz
      cases hgo0 : popGo s dp ks'.length ds g' with
      | stuck => rw [hgo0] at q3; exact q3.elim
      | err x g2 => rw [hgo0] at q3; exact q3.elim
      | ok r gE =>
        obtain ⟨xs, lf⟩ := r
        rw [hgo0] at q3
        obtain ⟨u0, k1, p, o0, rfl, nz0, np0, k2, ⟨vs0, rfl, k3⟩, _⟩ := E'.own i _ (ownL_some hds)
        obtain ⟨vp, k4, k5⟩ := E'.frz ip dp (slotD_some hdp)
        have hpD : p ≠ Dl := fun e => by subst e; rw [hD] at k2; cases k2
        refine ⟨fun i2 m2 H3 => m2 = ks'.length - i2 ∧ i2 ≤ ks'.length ∧ RowAt S s dp W' H2 p Dl ks'.length xs lf gE i2 H3, ⟨ks'.length, by simp, Nat.zero_le _, ⟨W', g', [], xs, ds, [], vs0, hgo0, rfl, Nat.le_refl _, hsz.2, (Ext.refl (ex := [p])).growX (.inl hD), E'.zin.fresh hD, E'.pool.fresh hD, nz0, np0, by rw [upd_ne hpD]; exact k2, k3, noZ E'.zin hD, nopool E'.pool hD, upd_same, trivial⟩⟩, ?_⟩
        rintro i2 m2 H3 ⟨rfl, hi', R⟩
        obtain ⟨W3, g3, acc, rest, left, av, lv, hgo, hx, hacc, hll, ext, z3, p3, nz, np, hp3, rl, nzD, npD, hD3, ra⟩ := R.ex
        have hJ3 := hJ' W3
        by_cases hlt : i2 < ks'.length
        · refine .inr ⟨hJ3.go i2 H3 z3 hlt, RowAt S s dp W' H2 p Dl ks'.length xs lf gE (i2 + 1), fun H' p' => ⟨ks'.length - (i2 + 1), by omega, rfl, hlt, p'⟩, fun x H4 hy => ?_⟩
          obtain ⟨W4, e4, z4, p4, r4⟩ := hJ3.yld i2 H3 x H4 _ z3 hy (List.getElem?_eq_getElem hlt) W3 g3 .refl z3 p3
          obtain ⟨nz4, np4, hp4⟩ := own_stays e4 nz np hp3
          obtain ⟨nzD4, npD4, hD4⟩ := own_stays e4 nzD npD hD3
          have hn : ks'.length - i2 = (ks'.length - (i2 + 1)) + 1 := by omega
          rw [hn] at hgo
          unfold popGo at hgo
          obtain ⟨d, g5, hst, hgo⟩ := bind_ok hgo
          replace hst := safe_ok hst
          split at hgo
          · rename_i j
            split at hgo
            · rename_i hj
              obtain ⟨r', g6, hgo', hret⟩ := bind_ok hgo
              obtain ⟨rest', lf'⟩ := r'
              cases hret
              refine ⟨wipe_one (σ2 := σ) o1, ?_⟩
              have sl : ∀ j, j ∉ own.map (·.2) → ((wipe σ (own.map (·.2))).set ik (some x))[j]? = σ[j]? := fun j hj => by
                rw [List.getElem?_set_ne (fun e => hj (by rw [← e]; exact o1))]
                exact wipe_out hj
              refine ⟨p, vp, lv, by rw [sl i o2]; exact k1, by rw [sl ip o3]; exact k4, hp4, rfl, W4, g3, [dp, .int (left.length : Nat)], z4, p4, ⟨k5.mono ((ext.le).trans e4.le), by rw [rl.length]; rfl, trivial⟩, ?_⟩
              rw [hst]
              intro W5 H5 e5 z5 p5 v rv
              obtain rfl : v = .int j := rv
              obtain ⟨nz5, np5, hp5⟩ := own_stays e5 nz4 np4 hp4
              obtain ⟨nzD5, npD5, hD5⟩ := own_stays e5 nzD4 npD4 hD4
              have hjn : j.toNat < left.length := by omega
              obtain ⟨y, hy1, hy2⟩ := rl.get (List.getElem?_eq_getElem hjn)
              have hlv := rl.length
              have hsl : sizeLine < 2 ^ 60 := by rw [sizeLine_eq]; decide
              refine ⟨p, lv, j, j.toNat, y, rfl, rfl, hp5, by omega, by omega, ixS hj.1 (by rw [← hlv]; exact hj.2), hy1, av, by rw [upd_ne hpD.symm]; exact hD5, ?_, ?_⟩
              · rw [← ra.length]
                have := hsz.1
                omega
              · have le5 := e4.le.trans e5.le
                have ee := (((ext.trans e4.weak).trans e5.weak).growX (p := p) (o := .lst (lv.eraseIdx j.toNat)) (.inr (List.mem_singleton.mpr rfl))).growX (p := Dl) (o := .lst (av ++ [y])) (.inl hD)
                refine ⟨W5, g5, acc ++ [left.getD j.toNat .non], rest', left.eraseIdx j.toNat, av ++ [y], lv.eraseIdx j.toNat, hgo', by rw [hx, List.append_assoc]; rfl, by simp; omega, ?_, ee, (z5.grow nz5).grow nzD5, (p5.grow np5).grow npD5, nz5, np5, by rw [upd_ne hpD]; exact upd_same, Reps.eraseIdx _ (rl.mono le5), nzD5, npD5, upd_same, ?_⟩
                · have : (left.eraseIdx j.toNat).length ≤ left.length := by rw [List.length_eraseIdx]; split <;> omega
                  omega
                · refine (ra.mono le5).append (Reps.one ?_)
                  rw [List.getD_eq_getElem?_getD, List.getElem?_eq_getElem hjn]
                  exact hy2.mono le5
            · cases hgo
          · cases hgo
        · have hie : i2 = ks'.length := by omega
          subst hie
          rw [Nat.sub_self] at hgo
          cases hgo
          rw [List.append_nil] at hx
          subst hx
          refine .inl ⟨hJ3.stop _ H3 z3 (Nat.le_refl _), Dl, av, rfl, .inl ⟨.inl (.inl hD3), fun l hl => ?_⟩⟩
          have hlz := noZ z3 hl
          have l3 : Ext [] W3 H3 (frz W3 l (.tup av)) (upd H3 l (.tup av)) := Ext.laid z3 hl
          obtain ⟨nz6, np6, hp6⟩ := own_stays l3 nz np hp3
          exact q3 _ σ _ _ (E'.stepX (ownL_some hds) k1 (ext.trans l3.weak) (z3.laid hl) (p3.laid hl) nz6 np6 hp6 ⟨lv, rfl, rl.mono l3.le⟩) ⟨l, av, rfl, upd_same, ra.mono l3.le⟩
    · exact q3.elim
  · exact q3.elim
end
end Dv
end
section
set_option maxHeartbeats 800000
/-! DvOc: two items of an own list exchanged. -/
namespace Dv
open PySem PySem.Spec PyProof.Rows L2
def slotI (env : Env) (i : Nat) : Option Int := match slotD env i with
  | some d => asI d
  | none => none
/-- x[a], x[b] = e (a tuple of two items) of an own list -/
def sSwp (m : Bool) (i ka kb : Nat) (f : Env → M D) : SM := onD m [] f fun d env g => match d with
  | .tup [d1, d2] => (match ownL env i, slotI env ka, slotI env kb with
    | some ds, some za, some zb => (match L2.ixN ds.length za, L2.ixN ds.length zb with
      | some ja, some jb => .ok (.nx (env.set i (some (.lst ((ds.set ja d1).set jb d2), true)))) g
      | _, _ => .stuck)
    | _, _, _ => .stuck)
  | _ => .stuck
theorem no_swap2 {o1 i1 o2 i2 : Expr} {p1 p2 p : Pos} {k : Nat} {v : Expr} {env : PySem.Env} : swappedStores [.Tuple [.Subscript o1 i1 p1, .Subscript o2 i2 p2] k p] v env = pure none := by
  unfold swappedStores
  cases v <;> first
    | rfl
    | (simp only
       split
       · rfl
       · split
         · rfl
         · rfl)
section
variable {S : Sx} {Wx : WX} {W0 : Gh} {H0 : Hp} {ex : List Addr} {F W W' : Gh} {m : Bool} {X : Cx} {env : Env} {σ : L2.St} {H H' : Hp} {g g' : G}
theorem slotI_at {W : Gh} (E : EnvOk S W0 H0 ex F W env σ H g) {i : Nat} {z : Int} (h : slotI env i = some z) : σ[i]? = some (some (V.int z)) := by
  unfold slotI at h
  split at h
  · rename_i d hd
    obtain rfl := asI_ok h
    obtain ⟨v, k1, k2⟩ := E.frz i _ (slotD_some hd)
    obtain rfl : v = .int z := k2
    exact k1
  · cases h
theorem ps_swpD (hm : m = false → ex = []) (K : X.K = S.K) (hc : X.calm = true) {i ka kb : Nat} {x y z : Str} {e : Expr} {f : Env → M D} {k : Nat} {pos p1 p2 p3 p4 p5 p6 p7 : Pos}
    (hi : X.N[i]? = some x) (hv : Vis X.env.scope x) (h1 : (x == ("__debug__" : Str)) = false) (h2 : (x == ("__classdict__" : Str)) = false)
    (hia : X.N[ka]? = some y) (hva : Vis X.env.scope y) (h1a : (y == ("__debug__" : Str)) = false) (h2a : (y == ("__classdict__" : Str)) = false)
    (hib : X.N[kb]? = some z) (hvb : Vis X.env.scope z) (h1b : (z == ("__debug__" : Str)) = false) (h2b : (z == ("__classdict__" : Str)) = false)
    (h : PE X e (tD S Wx f)) (hc' : notComp e = true) :
    PS X (.Assign [.Tuple [.Subscript (.Name x p1) (.Name y p2) p3, .Subscript (.Name x p4) (.Name z p5) p6] k p7] e pos) (tS S Wx W0 H0 ex F (sSwp m i ka kb f)) := by
  refine impS (ps_asg h (pg_tup hc (pgs_cons (pg_sub (pe_var hi hv h1 h2) (pe_var hia hva h1a h2a) set_list) (pgs_cons (pg_sub (pe_var hi hv h1 h2) (pe_var hib hvb h1b h2b) set_list) pgs_nil))) (by unfold swapsWithSole; exact noSwap hc') no_swap2 rfl) fun D σ H ⟨env, W, g, E, q⟩ => ?_
  obtain ⟨env1, W1, g1, st, q1⟩ := E.onD hm q
  refine ⟨env1, W1, g1, st, q1.mono fun d g2 W2 H2 _ _ _ q2 v rv => ?_⟩
  obtain ⟨d', env', W', g', E', r', q3, hi1, _⟩ := q2 v rv
  split at q3
  · rename_i d1 d2 hi1
    split at q3
    · rename_i ds za zb hl hza hzb
      split at q3
      · rename_i ja jb hja hjb
        obtain ⟨a, us, rfl, ha, ru⟩ := r'
        obtain ⟨u1, u2, rfl, r1, r2⟩ : ∃ u1 u2, us = [u1, u2] ∧ Rep S W' d1 u1 ∧ Rep S W' d2 u2 := by
          match us, ru with
          | [u1, u2], ⟨r1, r2, _⟩ => exact ⟨u1, u2, rfl, r1, r2⟩
          | [], r => exact r.elim
          | [_], ⟨_, r⟩ => exact r.elim
          | _ :: _ :: _ :: _, ⟨_, _, r⟩ => exact r.elim
        obtain ⟨p, vs, k1, k2, k3⟩ := E'.ownList hl
        have sa := slotI_at E' hza
        have sb := slotI_at E' hzb
        have E1 := E'.write (d' := .lst (ds.set ja d1)) (ownL_some hl) k1 ⟨_, rfl, Reps.set r1 ja k3⟩
        have hi' : i < env'.length := (List.getElem?_eq_some_iff.mp (ownL_some hl)).1
        have hl1 : ownL (env'.set i (some (.lst (ds.set ja d1), true))) i = some (ds.set ja d1) := by
          unfold ownL
          rw [List.getElem?_set_self hi']
        obtain ⟨p', vs', j1, j2, j3⟩ := E1.ownList hl1
        rw [k1] at j1
        cases j1
        have E2 := E1.write (d' := .lst ((ds.set ja d1).set jb d2)) (ownL_some hl1) k1 ⟨_, rfl, Reps.set r2 jb j3⟩
        rw [List.set_set] at E2
        refine ⟨a, _, rfl, by rw [K]; exact Rep.sqT E'.zin ha, rfl, u1, _, rfl, .ref p, k1, .int za, sa, p, vs, za, ja, rfl, rfl, k2, by rw [← k3.length]; exact hja, u2, _, rfl, .ref p, k1, .int zb, sb, p, vs', zb, jb, rfl, rfl, j2, by rw [← j3.length, List.length_set]; exact hjb, rfl, q3 _ _ _ E2⟩
      · exact q3.elim
    · exact q3.elim
  · exact q3.elim
end
end Dv
end
section
set_option maxHeartbeats 400000
/-! DvP: the small syntax of statements. -/
namespace Dv
open PySem PySem.Spec PyProof.Rows L2
/-- the suite of an except -/
inductive SH where
  | set (i : Nat) (e : IR) | ret (e : IR) | brk | cnt | pass
mutual
inductive SI where
  | drop (hd : List Nat) (e : IR)
  | set (hd : List Nat) (t : Tg) (e : IR)
  | own (hd : List Nat) (i : Nat) (e : IR)
  | app (hd : List Nat) (i : Nat) (e : IR)
  | ext (hd : List Nat) (i : Nat) (e : IR)
  | fset (hd : List Nat) (i : Nat) (cs : List Nat) (f : Str) (e : IR)
  | aug (hd : List Nat) (i : Nat) (op : Operator) (e : IR)
  | ret (hd : List Nat) (e : IR) | retN
  | ifs (c : IR) (a b : SIs)
  | for (hd : List Nat) (t : Tg) (it : IT) (b : SIs)
  | whl (n : Nat) (c : IR) (b : SIs)
  | pset (hd : List Nat) (i : Nat) (e : IR) | cset (hd : List Nat) (i : Nat) (e : IR) | cpop (i : Nat) | retP (a b c : IR)
  | brk | cnt | pass
  | raise (x : Str) (c : Nat)
  | try (b : SIs) (x : Str) (ms : List (Nat × Bool)) (h : List SH)
  | tryE (b : SIs) (x : Str) (ms : List (Nat × Bool)) (ie i : Nat) (l : List (Str × List (Nat × Bool)))
  | tryN (b : SIs) (hs : List (Str × List (Nat × Bool) × List SH))
  | put (hd : List Nat) (i : Nat) (k e : IR)
  | swp (i ka kb : Nat) (e : IR)
  | row (i ip ik : Nat) (own : List (Str × Nat)) (x : Str) (s : List D → M D) (it : IT)
inductive SIs where
  | nil | cons (a : SI) (r : SIs)
end
/-- its result is a new object -/
def evF : IR → Env → M D
  | .bin op a b => match op with
    | .Add => ownM (bind2 addD (ev a).v (ev b).v)
    | .Mult => ownM (bind2 mulD (ev a).v (ev b).v)
    | _ => fun _ => .fail
  | .slc a lo hi => ownM (slcM (ev a).v (ev lo).p (ev hi).p)
  | .lst es => (ev (.lst es)).v
  | .dnew => (ev .dnew).v
  | .comp own t it c e => (ev (.comp own t it c e)).v
  | .make x c n s as => (ev (.make x c n s as)).v
  | .bi b es => match b with
    | .list => thenM (evs es) (biO .list)
    | .sorted => thenM (evs es) (biO .sorted)
    | _ => fun _ => .fail
  | .rg t es => match t with
    | false => thenM (evs es) (rgO false)
    | true => fun _ => .fail
  | .callN _ n s as => callM n s (evs as)
  | _ => fun _ => .fail
def evH1 (m : Bool) : SH → SM
  | .set i e => sSet m [] (.one i) (ev e).v
  | .ret e => sRet m [] (ev e).v
  | .brk => sBrk
  | .cnt => sCnt
  | .pass => sNext
def evH (m : Bool) : List SH → SM
  | [] => sNext
  | a :: r => sSeq (evH1 m a) (evH m r)
def isRng : IT → Bool
  | .rng1 _ => true
  | .rng2 _ _ => true
  | _ => false
mutual
def evS (m : Bool) : SI → SM
  | .drop hd e => sDrop m hd (ev e).v
  | .set hd t e => sSet m hd t (ev e).v
  | .own hd i e => sOwn m hd i (evF e)
  | .app hd i e => sApp m hd i (ev e).v
  | .ext hd i e => sExt m hd i (ev e).v
  | .fset hd i cs f e => sFset m hd i cs f (ev e).v
  | .aug hd i op e => sAug m hd i op (ev e).v
  | .ret hd e => sRet m hd (ev e).v
  | .retN => sRetN
  | .ifs c a b => sIf (ev c).t (evSs m a) (evSs m b)
  | .for hd t it b => if isRng it then sForR m t (evi it) (evSs m b) else sFor m hd t (evi it) (evSs m b)
  | .whl n c b => whlGo (ev c).t (evSs m b) n
  | .brk => sBrk
  | .cnt => sCnt
  | .pass => sNext
  | .raise _ c => sRaise c
  | .pset hd i e => sPset m hd i (ev e).v
  | .cset hd i e => sCset m hd i (ev e).v
  | .cpop i => sCpop i
  | .retP a b c => sRetP (ev a).v (ev b).v (evF c)
  | .try b _ ms h => sTry ms (evSs m b) (evH m h)
  | .tryE b _ ms ie i l => sTryE ms ie i l (evSs m b)
  | .tryN b hs => sTryN (hs.map fun h => (h.2.1, evH m h.2.2)) (evSs m b)
  | .put hd i k e => sPut m hd i (ev k).v (ev e).v
  | .swp i ka kb e => sSwp m i ka kb (ev e).v
  | .row i ip _ _ _ s it => sRow m i ip s (evi it)
def evSs (m : Bool) : SIs → SM
  | .nil => sNext
  | .cons a r => sSeq (evS m a) (evSs m r)
end
/-! ### the check -/
def isFresh : IR → Bool
  | .bin op _ _ => match op with
    | .Add => true | .Mult => true | _ => false
  | .slc _ _ _ => true | .lst _ => true | .dnew => true | .comp _ _ _ _ _ => true | .make _ _ _ _ _ => true
  | .bi b _ => match b with
    | .list => true | .sorted => true | _ => false
  | .rg t _ => !t
  | .callN _ _ _ _ => true
  | _ => false
/-- the name is set by a comprehension on one line -/
def swOk (sc : Scope) (x : Str) (p : Pos) (e : Expr) : Bool := match e with
  | .ListComp _ _ scope pos => (match sc.names.lookup x with | some .cell => true | _ => false) || ((match sc.kind with | .function => true | _ => false) && (match sc.names.lookup x with | some .local => true | _ => false) && (p.line == pos.line) && !(scope.names.any fun (n, k) => n == x && (k == .local || k == .cell)))
  | _ => notComp e
def tgOk (tg v : Expr) : Bool := match tg with
  | .Name _ _ => true
  | .Tuple _ _ _ => notDisp v
  | _ => false
def quiet : IR → Bool
  | .cst _ => true
  | .tup .nil => true
  | .tup (.cons (.cst _) .nil) => true
  | .tup (.cons (.cst _) (.cons (.cst _) .nil)) => true
  | _ => false
def chkH1 (T : Tx) (N : List Str) (sc : Scope) (fn : Str → Bool) : SH → Stmt → Bool
  | .set i e, s => match s with
    | .Assign [.Name x p] v _ => chkNm N sc fn i (.Name x p) && notComp v && quiet e && chk T N sc fn e v
    | _ => false
  | .ret e, s => match s with
    | .Return (some v) _ => quiet e && chk T N sc fn e v
    | _ => false
  | .brk, s => match s with
    | .Break _ => true
    | _ => false
  | .cnt, s => match s with
    | .Continue _ => true
    | _ => false
  | .pass, s => match s with
    | .Pass _ => true
    | _ => false
def chkH (T : Tx) (N : List Str) (sc : Scope) (fn : Str → Bool) : List SH → List Stmt → Bool
  | [], [] => true
  | a :: r, s :: ss => chkH1 T N sc fn a s && chkH T N sc fn r ss
  | _, _ => false
def chkHs (T : Tx) (N : List Str) (sc : Scope) (fn : Str → Bool) : List (Str × List (Nat × Bool) × List SH) → List ExceptHandler → Bool
  | [], hds => match hds with
    | [] => true
    | _ => false
  | a :: r, hds => match hds with
    | .ExceptHandler (some (.Name y _)) none (b0 :: suite) _ :: hds => decide (y = a.1) && glB sc y && decide ((a.1, a.2.1) ∈ T.hnd) && chkH T N sc fn a.2.2 (b0 :: suite) && chkHs T N sc fn r hds
    | _ => false
def isComp1 : IR → Bool
  | .comp _ _ _ _ _ => true
  | _ => false
def nmB (x : Str) : Bool := !(x == ("__debug__" : Str)) && !(x == ("__classdict__" : Str))
mutual
def chkS (T : Tx) (N : List Str) (sc : Scope) (fn : Str → Bool) : SI → Stmt → Bool
  | .drop _ e, s => match s with
    | .Expr x _ => notComp x && chk T N sc fn e x
    | _ => false
  | .set _ t e, s => match s with
    | .Assign [tg] v _ => chkT N sc fn t tg && notComp v && tgOk tg v && chk T N sc fn e v
    | _ => false
  | .own _ i e, s => match s with
    | .Assign [.Name x p] v _ => chkNm N sc fn i (.Name x p) && swOk sc x p v && isFresh e && chk T N sc fn e v
    | _ => false
  | .app _ i e, s => match s with
    | .Expr (.Call (.Attribute (.Name x _) at_ ap) [a] [] cp) _ => decide (at_ = ("append" : Str)) && decide (N[i]? = some x) && visB sc x && !(x == ("__debug__" : Str)) && !(x == ("__classdict__" : Str)) && plainX a && (ap.endLine == cp.line) && chk T N sc fn e a
    | _ => false
  | .ext _ i e, s => match s with
    | .Expr (.Call (.Attribute (.Name x _) at_ ap) [a] [] cp) _ => decide (at_ = ("extend" : Str)) && decide (N[i]? = some x) && visB sc x && !(x == ("__debug__" : Str)) && !(x == ("__classdict__" : Str)) && plainX a && (ap.endLine == cp.line) && chk T N sc fn e a
    | _ => false
  | .fset _ i cs f e, s => match s with
    | .Assign [.Attribute (.Name x _) g _] v _ => decide (g = f) && (cs.all fun c => decide ((c, f) ∈ T.att)) && decide (N[i]? = some x) && visB sc x && !(x == ("__debug__" : Str)) && !(x == ("__classdict__" : Str)) && notComp v && chk T N sc fn e v
    | _ => false
  | .aug _ i op e, s => match s with
    | .AugAssign (.Name x p) o v _ => decide (o = op) && chkNm N sc fn i (.Name x p) && chk T N sc fn e v
    | _ => false
  | .ret _ e, s => match s with
    | .Return (some v) _ => chk T N sc fn e v
    | _ => false
  | .retN, s => match s with
    | .Return none _ => true
    | _ => false
  | .ifs c a b, s => match s with
    | .If x y z _ => chk T N sc fn c x && chkSs T N sc fn a y && chkSs T N sc fn b z
    | _ => false
  | .for _ t it b, s => match s with
    | .For tg iter body [] _ => chkT N sc fn t tg && chkI T N sc fn it tg iter && chkSs T N sc fn b body
    | _ => false
  | .whl _ c b, s => match s with
    | .While x body [] _ => chk T N sc fn c x && chkSs T N sc fn b body
    | _ => false
  | .brk, s => match s with
    | .Break _ => true
    | _ => false
  | .cnt, s => match s with
    | .Continue _ => true
    | _ => false
  | .pass, s => match s with
    | .Pass _ => true
    | _ => false
  | .pset _ i e, s => match s with
    | .Assign [.Subscript (.Name x _) (.Constant (.int j) _ _) _] v _ => decide (j = 1) && decide (N[i]? = some x) && visB sc x && !(x == ("__debug__" : Str)) && !(x == ("__classdict__" : Str)) && notComp v && chk T N sc fn e v
    | _ => false
  | .cset _ i e, s => match s with
    | .Assign [.Subscript (.Name x _) (.Constant (.int j) _ _) _] v _ => decide (j = 0) && decide (N[i]? = some x) && visB sc x && !(x == ("__debug__" : Str)) && !(x == ("__classdict__" : Str)) && notComp v && chk T N sc fn e v
    | _ => false
  | .cpop i, s => match s with
    | .Expr (.Call (.Attribute (.Name x _) at_ ap) [.Constant (.int j) _ _] [] cp) _ => decide (at_ = ("pop" : Str)) && decide (j = 0) && decide (N[i]? = some x) && visB sc x && !(x == ("__debug__" : Str)) && !(x == ("__classdict__" : Str)) && (ap.endLine == cp.line)
    | _ => false
  | .retP a b c, s => match s with
    | .Return (some (.List [x, y, z] _)) _ => plainX x && plainX y && plainX z && isComp1 c && chk T N sc fn a x && chk T N sc fn b y && chk T N sc fn c z
    | _ => false
  | .raise x c, s => match s with
    | .Raise (some (.Call (.Name y _) [] [] _)) none _ => decide (y = x) && glB sc y && decide ((x, c) ∈ T.exc)
    | _ => false
  | .try b x ms h, s => match s with
    | .Try body [.ExceptHandler (some (.Name y _)) none (b0 :: suite) _] [] [] _ => decide (y = x) && glB sc y && decide ((x, ms) ∈ T.hnd) && chkSs T N sc fn b body && chkH T N sc fn h (b0 :: suite)
    | _ => false
  | .tryE b x ms ie i l, s => match s with
    | .Try body [.ExceptHandler (some (.Name z _)) (some n) [.Assign [.Name y yp] (.List es _) _] _] [] [] _ => decide (z = x) && glB sc z && decide ((x, ms) ∈ T.hnd) && decide (N[ie]? = some n) && decide (sc.names.lookup n = some .local) && nmB n && chkNm N sc fn i (.Name y yp) && isesB sc n l es && chkSs T N sc fn b body
    | _ => false
  | .tryN b hs, s => match s with
    | .Try body (h0 :: hds) [] [] _ => chkSs T N sc fn b body && chkHs T N sc fn hs (h0 :: hds)
    | _ => false
  | .put _ i k e, s => match s with
    | .Assign [.Subscript (.Name x _) ek _] v _ => notSlice ek && decide (N[i]? = some x) && visB sc x && !(x == ("__debug__" : Str)) && !(x == ("__classdict__" : Str)) && notComp v && chk T N sc fn k ek && chk T N sc fn e v
    | _ => false
  | .swp i ka kb e, s => match s with
    | .Assign [.Tuple [.Subscript (.Name x _) (.Name y _) _, .Subscript (.Name x2 _) (.Name z _) _] _ _] v _ => decide (x2 = x) && decide (N[i]? = some x) && visB sc x && nmB x && decide (N[ka]? = some y) && visB sc y && nmB y && decide (N[kb]? = some z) && visB sc z && nmB z && notComp v && chk T N sc fn e v
    | _ => false
  | .row i ip ik own x _ it, s => match s with
    | .Return (some (.Call (.Name tp _) [.ListComp (.Call (.Attribute (.Name xl _) at_ ap) [.Call (.Name xd _) [.Name xp _, .Call (.Name ln _) [.Name xl2 _] [] _] [] _] [] cp) [⟨tg, iter, [], 0⟩] scope _] [] _)) _ =>
      decide (tp = ("tuple" : Str)) && decide (at_ = ("pop" : Str)) && decide (xd = x) && decide (ln = ("len" : Str)) && decide (xl2 = xl) && glB sc tp && glB (relS scope sc) ln && glB (relS scope sc) xd && decide (N[i]? = some xl) && decide (N[ip]? = some xp) && visB (relS scope sc) xl && visB (relS scope sc) xp && nmB xl && nmB xp && nmB xd &&
        (ap.endLine == cp.line) && blkC N sc scope own && decide (ik ∈ own.map (·.2)) && !(decide (i ∈ own.map (·.2))) && !(decide (ip ∈ own.map (·.2))) && chkNm N (relS scope sc) (fun y => scope.names.lookup y == some .cell) ik tg && isRng it && chkI T N sc fn it tg iter
    | _ => false
def chkSs (T : Tx) (N : List Str) (sc : Scope) (fn : Str → Bool) : SIs → List Stmt → Bool
  | .nil, ss => match ss with
    | [] => true
    | _ => false
  | .cons a r, ss => match ss with
    | s :: ss => chkS T N sc fn a s && chkSs T N sc fn r ss
    | _ => false
end
mutual
def knS (Kn : KnT) : SI → Prop
  | .drop _ e => knE Kn e
  | .set _ _ e => knE Kn e
  | .own _ _ e => knE Kn e
  | .app _ _ e => knE Kn e
  | .ext _ _ e => knE Kn e
  | .fset _ _ _ _ e => knE Kn e
  | .aug _ _ _ e => knE Kn e
  | .ret _ e => knE Kn e
  | .pset _ _ e => knE Kn e
  | .cset _ _ e => knE Kn e
  | .retP a b c => knE Kn a ∧ knE Kn b ∧ knE Kn c
  | .ifs c a b => knE Kn c ∧ knSs Kn a ∧ knSs Kn b
  | .for _ _ it b => knI Kn it ∧ knSs Kn b
  | .whl _ c b => knE Kn c ∧ knSs Kn b
  | .try b _ _ _ => knSs Kn b
  | .tryE b _ _ _ _ l => knSs Kn b ∧ ∀ p ∈ l, Kn.x p.1 p.2
  | .tryN b _ => knSs Kn b
  | .put _ _ k e => knE Kn k ∧ knE Kn e
  | .swp _ _ _ e => knE Kn e
  | .row _ _ _ _ x s it => Kn.f x 2 s ∧ knI Kn it
  | _ => True
def knSs (Kn : KnT) : SIs → Prop
  | .nil => True
  | .cons a r => knS Kn a ∧ knSs Kn r
end
end Dv
end
section
set_option maxHeartbeats 400000
/-! DvQ: the check and the evaluation of statements. -/
namespace Dv
open PySem PySem.Spec PyProof.Rows L2
section
variable {P : Program} {w : World} {mg : Str → Option Value} {base : Heap} {S : Sx} {lev : Nat} {N : List Str} {T : Tx} {sc : Scope} {fn : Str → Bool} {m : Bool} {W0 : Gh} {H0 : Hp} {ex : List Addr}
theorem okCst {Wx : WX} {X : Cx} {d : D} {e : Expr} (h : chk T N sc fn (.cst d) e = true) : PE X e (tD S Wx fun _ => .ret d) := by
  unfold chk at h
  split at h
  · rename_i c k p
    cases d with
    | int i =>
      cases c with
      | int j =>
        obtain rfl : i = j := of_decide_eq_true h
        exact pe_constD pe_int fun _ => rfl
      | _ => cases h
    | bl a =>
      cases c with
      | bool b =>
        obtain rfl : a = b := eq_of_beq h
        exact pe_constD pe_bl fun _ => rfl
      | _ => cases h
    | non =>
      cases c with
      | none => exact pe_constD pe_non fun _ => rfl
      | _ => cases h
    | str x =>
      cases c with
      | str y =>
        obtain rfl : x = y := of_decide_eq_true h
        exact pe_constD pe_str fun _ => rfl
      | _ => cases h
    | _ => cases h
  · cases h
theorem okQ {Wx : WX} {X : Cx} : ∀ {ir : IR} {e : Expr}, quiet ir = true → chk T N sc fn ir e = true → PE X e (tD S Wx (ev ir).v)
  | .cst d, e, _, h => okCst h
  | .tup .nil, e, _, h => by
    unfold chk at h
    split at h
    · unfold chks at h
      split at h
      · exact pe_tupD pa_nilD
      · cases h
    · cases h
  | .tup (.cons (.cst _) .nil), e, _, h => by
    unfold chk at h
    split at h
    · unfold chks at h
      split at h
      · simp only [Bool.and_eq_true] at h
        obtain ⟨⟨h1, h2⟩, h3⟩ := h
        unfold chks at h3
        split at h3
        · exact pe_tupD (pa_consD (okCst h2) pa_nilD h1)
        · cases h3
      · cases h
    · cases h
  | .tup (.cons (.cst _) (.cons (.cst _) .nil)), e, _, h => by
    unfold chk at h
    split at h
    · unfold chks at h
      split at h
      · simp only [Bool.and_eq_true] at h
        obtain ⟨⟨h1, h2⟩, h3⟩ := h
        unfold chks at h3
        split at h3
        · simp only [Bool.and_eq_true] at h3
          obtain ⟨⟨h4, h5⟩, h6⟩ := h3
          unfold chks at h6
          split at h6
          · exact pe_tupD (pa_consD (okCst h2) (pa_consD (okCst h5) pa_nilD h4) h1)
          · cases h6
        · cases h3
      · cases h
    · cases h
theorem okH1 {F : Gh} {Wx : WX} {X : Cx} (hm : m = false → ex = []) (hN : X.N = N) (nd : N.Nodup) (hsc : X.env.scope = sc) (hfn : ∀ x, fn x = true → X.fn x = true) {h : SH} {s : Stmt} (c : chkH1 T N sc fn h s = true) : PS X s (tS S Wx W0 H0 ex F (evH1 m h)) := by
  cases h with
  | set i e =>
    simp only [chkH1] at c
    split at c
    · simp only [Bool.and_eq_true] at c
      obtain ⟨⟨⟨h1, h2⟩, h3⟩, h4⟩ := c
      obtain ⟨x, p, hx, k1, k2, k3⟩ := chkNm_ok hsc hfn h1
      cases hx
      exact ps_setD hm (by rw [hN]; exact nd) (by rw [hN]; exact k1) k2 k3 (okQ h3 h4) h2
    · cases c
  | ret e =>
    simp only [chkH1] at c
    split at c
    · simp only [Bool.and_eq_true] at c
      exact ps_retD hm (okQ c.1 c.2)
    · cases c
  | brk =>
    simp only [chkH1] at c
    split at c
    · exact ps_brkD
    · cases c
  | cnt =>
    simp only [chkH1] at c
    split at c
    · exact ps_cntD
    · cases c
  | pass =>
    simp only [chkH1] at c
    split at c
    · exact ps_passD
    · cases c
theorem okH {F : Gh} {Wx : WX} {X : Cx} (hm : m = false → ex = []) (hN : X.N = N) (nd : N.Nodup) (hsc : X.env.scope = sc) (hfn : ∀ x, fn x = true → X.fn x = true) : ∀ {h : List SH} {s : List Stmt}, chkH T N sc fn h s = true → PSs X s (tS S Wx W0 H0 ex F (evH m h))
  | [], [], _ => pss_nilD
  | a :: r, s :: ss, c => by
    obtain ⟨h1, h2⟩ := all2 (show (chkH1 T N sc fn a s && chkH T N sc fn r ss) = true from c)
    exact pss_consD (okH1 hm hN nd hsc hfn h1) (okH hm hN nd hsc hfn h2)
  | [], _ :: _, c => by cases c
  | _ :: _, [], c => by cases c
theorem okHs {F : Gh} {X : Cx} (TX : Txt T S mg) (hm : m = false → ex = []) (hmg : X.mg = mg) (hN : X.N = N) (nd : N.Nodup) (hsc : X.env.scope = sc) (hgl : ∀ x, glB sc x = true → Gl X x ∧ (x == ("__debug__" : Str)) = false) (hfn : ∀ x, fn x = true → X.fn x = true) :
    ∀ {hs : List (Str × List (Nat × Bool) × List SH)} {hds : List ExceptHandler}, chkHs T N sc fn hs hds = true → ∃ l', HdsD S W0 H0 ex F X hds (hs.map fun h => (h.2.1, evH m h.2.2)) l' := by
  intro hs
  induction hs with
  | nil =>
    intro hds c
    cases hds with
    | nil => exact ⟨[], .nil⟩
    | cons _ _ => cases c
  | cons a r ih =>
    intro hds c
    unfold chkHs at c
    split at c
    · simp only [Bool.and_eq_true, decide_eq_true_eq] at c
      obtain ⟨⟨⟨⟨rfl, h1⟩, h2⟩, h3⟩, h4⟩ := c
      obtain ⟨h5, h6⟩ := hgl _ h1
      obtain ⟨cv, hc, hx⟩ := (TX.hnd _ _ h2).ex
      obtain ⟨l', hl⟩ := ih h4
      exact ⟨_, .cons ⟨h5, h6, by rw [hmg]; exact hc⟩ hx (fun a pn => okH (X := X.suite a pn) (Wx := noW) hm hN nd hsc hfn h3) hl⟩
    · cases c
/-- a range, walked by a statement -/
theorem okIr {Wx : WX} {X : Cx} (TX : Txt T S mg) (C : Cxt P w mg base S lev N sc fn Wx X) : ∀ {it : IT} {tg e : Expr}, isRng it = true → chkI T N sc fn it tg e = true → knI (KnAt P w mg base S lev) it → PI X tg e (tIr S Wx (evi it)) ∧ ∀ x, foldedSetIterable e X.env x = pure x
  | .rng1 a, tg, e, _, h, k => by
    unfold chkI at h
    split at h
    · simp only [Bool.and_eq_true, decide_eq_true_eq] at h
      obtain ⟨⟨⟨rfl, h1⟩, h2⟩, h3⟩ := h
      exact ⟨pi_rng1r (C.gl h1).1 (C.fr TX (by decide +kernel)) (pa_consD (okE TX a sc fn _ Wx X C h3 k).v pa_nilD h2) h2, fun _ => rfl⟩
    · cases h
  | .rng2 a b, tg, e, _, h, k => by
    unfold chkI at h
    split at h
    · simp only [Bool.and_eq_true, decide_eq_true_eq] at h
      obtain ⟨⟨⟨⟨⟨rfl, h1⟩, h2⟩, h3⟩, h4⟩, h5⟩ := h
      exact ⟨pi_rng2r (C.gl h1).1 (C.fr TX (by decide +kernel)) (pa_consD (okE TX a sc fn _ Wx X C h4 k.1).v (pa_consD (okE TX b sc fn _ Wx X C h5 k.2).v pa_nilD h3) h2) h2 h3, fun _ => rfl⟩
    · cases h
/-- a new list by a comprehension -/
theorem okCompF {Wx : WX} {X : Cx} (TX : Txt T S mg) (C : Cxt P w mg base S lev N sc fn Wx X) : ∀ {ir : IR} {v : Expr}, isComp1 ir = true → chk T N sc fn ir v = true → knE (KnAt P w mg base S lev) ir → PE X v (tF S Wx (evF ir)) := by
  intro ir v hf h k
  cases ir with
  | comp own t it c y =>
    unfold chk at h
    split at h
    · rename_i elt tg iter ifs scope p1
      simp only [Bool.and_eq_true] at h
      obtain ⟨⟨⟨⟨⟨g1, g2⟩, g3⟩, g4⟩, g5⟩, g6⟩ := h
      obtain ⟨pi, hfs⟩ := okI TX it sc fn tg iter Wx X C g4 k.1
      refine pe_compF C.K C.calm (by rw [C.hN]; exact C.nd) pi (by rw [C.hN, C.hsc]; exact blkOk_by g1) (fun j hj => of_decide_eq_true (List.all_eq_true.mp g2 j hj)) (fun s H C' cl fp => ?_) (fun s H C' cl fp => ?_) (fun s H C' cl fp => ?_) hfs
      · have CB := C.blk s H scope C' cl fp
        exact pg_tg CB.hN CB.nd CB.calm CB.hsc CB.hfn g3
      · have CB := C.blk s H scope C' cl fp
        split at g6
        · cases c <;> first
            | (cases g6; done)
            | exact ⟨fun pins s σ H Q I ⟨env, W, g, st, q⟩ => pts_nil.run pins s σ H Q I (Out.ret (α := Bool) (a := true) (k := fun b _ _ H' => Q b H') q st.zin st.pool)⟩
        · exact pts_one (okE TX c _ _ _ noW _ CB g6 k.2.1).t
        · cases g6
      · have CB := C.blk s H scope C' cl fp
        exact (okE TX y _ _ _ noW _ CB g5 k.2.2).v
    · cases h
  | _ => cases hf
/-- a new object, named -/
theorem okOwn {F : Gh} {Wx : WX} {X : Cx} (TX : Txt T S mg) (C : Cxt P w mg base S lev N sc fn Wx X) (hm : m = false → ex = []) (hx0 : ∀ p ∈ ex, H0 p ≠ none) {hd : List Nat} {i : Nat} {x : Str} {p spos : Pos} (h1 : chkNm N sc fn i (.Name x p) = true) :
    ∀ {ir : IR} {v : Expr}, isFresh ir = true → swOk sc x p v = true → chk T N sc fn ir v = true → knE (KnAt P w mg base S lev) ir → PS X (.Assign [.Name x p] v spos) (tS S Wx W0 H0 ex F (sOwn m hd i (evF ir))) := by
  obtain ⟨y, p', hx, k1, k2, k3⟩ := chkNm_ok C.hsc C.hfn h1
  cases hx
  have hi : X.N[i]? = some x := by rw [C.hN]; exact k1
  have hnd : X.N.Nodup := by rw [C.hN]; exact C.nd
  intro ir v hf hs h k
  cases ir with
  | bin op a b =>
    unfold chk at h
    split at h
    · simp only [Bool.and_eq_true, decide_eq_true_eq] at h
      obtain ⟨⟨rfl, h2⟩, h3⟩ := h
      have ia := (okE TX a sc fn _ Wx X C h2 k.1).v
      have ib := (okE TX b sc fn _ Wx X C h3 k.2).v
      rename_i x1 op' y1 p1
      cases op' <;> first
        | exact ps_ownD hm hx0 hnd hi k2 k3 (pe_addF C.K ia ib) rfl
        | exact ps_ownD hm hx0 hnd hi k2 k3 (pe_mulF C.K ia ib) rfl
        | cases hf
    · cases h
  | slc a lo hi' =>
    unfold chk at h
    split at h
    · rename_i x1 l u p2 p3
      simp only [Bool.and_eq_true] at h
      obtain ⟨⟨h2, h3⟩, h4⟩ := h
      have part : ∀ (ir : IR) (y : Option Expr), (match y with | none => isNop ir | some z => notNop ir && chk T N sc fn ir z) = true → (∀ z, chk T N sc fn ir z = true → OkE S Wx X z (ev ir)) → PO X y (tP S Wx (ev ir).p) := by
        intro ir y hy ih
        cases y with
        | none =>
          cases ir <;> first
            | exact po_noneD
            | cases hy
        | some z =>
          obtain ⟨hn, hz⟩ := all2 hy
          have pe := (ih z hz).v
          cases ir <;> first
            | exact po_someD pe
            | cases hn
      exact ps_ownD hm hx0 hnd hi k2 k3 (pe_slcF C.K (okE TX a sc fn _ Wx X C h2 k.1).v (part lo l h3 fun z hz => okE TX lo sc fn z Wx X C hz k.2.1) (part hi' u h4 fun z hz => okE TX hi' sc fn z Wx X C hz k.2.2)) rfl
    · cases h
  | lst es =>
    unfold chk at h
    split at h
    · exact ps_ownD hm hx0 hnd hi k2 k3 (pe_lstF (okEs TX es sc fn _ Wx X C h k)) rfl
    · cases h
  | dnew =>
    unfold chk at h
    split at h
    · refine ps_ownD hm hx0 hnd hi k2 k3 (impE pe_dnewK fun σ H Q ⟨env, W, g, st, q⟩ p hp => ?_) rfl
      exact KF.new (S := S) (W := W) (g := g) (c := .dct []) (Q := Q) (fun p o W' H' e' z' p' a1 a2 a3 a4 a5 => q W' H' e' z' p' p o a1 a2 a3 a4 a5) st.zin st.pool ⟨[], rfl, trivial⟩ hp
    · cases h
  | bi b es =>
    unfold chk at h
    split at h
    · rename_i y p1 z zs p2
      simp only [Bool.and_eq_true, decide_eq_true_eq] at h
      obtain ⟨⟨⟨e1, h2⟩, h3⟩, h4⟩ := h
      subst e1
      have ha := okEs TX es sc fn _ Wx X C h4 k
      obtain ⟨h5, h6⟩ := C.gl h2
      obtain ⟨h7, h8⟩ := biName_ok b
      have hp' := all2 (by simpa only [List.all_cons] using h3)
      cases b <;> first
        | (cases hf; done)
        | exact ps_ownD hm hx0 hnd hi k2 k3 (impE (pe_callTy call_list_of h5 (C.fr TX h7) (by decide +kernel) ha h8 h6 (starEach_plain hp'.1) (noafter hp'.2)) (by rw [C.K]; exact tCBF_of opnf_list)) rfl
        | exact ps_ownD hm hx0 hnd hi k2 k3 (impE (pe_callB ((cr_sortedI.or (cr_sortedPO.or cr_sortedW)).or cr_sortedTu) h5 (C.fr TX h7) (by decide +kernel) ha h8 h6 (starEach_plain hp'.1) (noafter hp'.2)) (by rw [C.K]; exact tCBF_of opnf_sorted)) rfl
    · cases h
  | rg t es =>
    unfold chk at h
    split at h
    · simp only [Bool.and_eq_true, decide_eq_true_eq] at h
      obtain ⟨⟨⟨⟨rfl, rfl⟩, h2⟩, h3⟩, h4⟩ := h
      have pr := okRg TX es sc fn _ Wx X C h4 k
      cases t with
      | true => cases hf
      | false => exact ps_ownD hm hx0 hnd hi k2 k3 (pe_rgF C.calm (C.gl h2).1 (C.fr TX (by decide +kernel)) (pr _ _ (C.gl h3).1) rfl) rfl
    · cases h
  | callN x n s as =>
    unfold chk at h
    split at h
    · rename_i y p1 z zs p2
      simp only [Bool.and_eq_true, decide_eq_true_eq] at h
      obtain ⟨⟨⟨e1, h2⟩, h3⟩, h4⟩ := h
      subst e1
      obtain ⟨lv, hl, kn⟩ := k.1
      obtain ⟨h5, h6⟩ := C.gl h2
      have ha := okEs TX as sc fn _ Wx X C h4 k.2
      have kn' : KnownN X.prog X.w S X.mg X.base lv y n s := by
        rw [C.hP, C.hw, C.hmg, C.hbase]; exact kn
      exact ps_ownD hm hx0 hnd hi k2 k3 (pe_callN C.K kn' (C.room.mono hl) h5 C.tk ha h6 h3) rfl
    · cases h
  | make x c n s as =>
    unfold chk at h
    split at h
    · rename_i y p1 z zs p2
      simp only [Bool.and_eq_true, decide_eq_true_eq] at h
      obtain ⟨⟨⟨e1, h2⟩, h3⟩, h4⟩ := h
      subst e1
      obtain ⟨lv, hl, kn⟩ := k.1
      obtain ⟨h5, h6⟩ := C.gl h2
      have ha := okEs TX as sc fn _ Wx X C h4 k.2
      have kn' : KnownC X.prog X.w S X.mg X.base lv y c n s := by
        rw [C.hP, C.hw, C.hmg, C.hbase]; exact kn
      exact ps_ownD hm hx0 hnd hi k2 k3 (pe_makeD C.K kn' (C.room.mono hl) h5 C.tk ha h6 h3) rfl
    · cases h
  | comp own t it c y =>
    unfold chk at h
    split at h
    · rename_i elt tg iter ifs scope p1
      simp only [Bool.and_eq_true] at h
      obtain ⟨⟨⟨⟨⟨g1, g2⟩, g3⟩, g4⟩, g5⟩, g6⟩ := h
      obtain ⟨pi, hfs⟩ := okI TX it sc fn tg iter Wx X C g4 k.1
      unfold swOk at hs
      rcases Bool.or_eq_true_iff.mp hs with hs | hs
      · have lc : X.env.scope.names.lookup x = some .cell := by
          rw [C.hsc]
          split at hs
          · assumption
          · cases hs
        refine ps_ownS hm hx0 hnd hi k2 k3 (pe_compF C.K C.calm hnd pi (by rw [C.hN, C.hsc]; exact blkOk_by g1) (fun j hj => of_decide_eq_true (List.all_eq_true.mp g2 j hj)) (fun s H C' cl fp => ?_) (fun s H C' cl fp => ?_) (fun s H C' cl fp => ?_) hfs) (sw_cell lc)
        · have CB := C.blk s H scope C' cl fp
          exact pg_tg CB.hN CB.nd CB.calm CB.hsc CB.hfn g3
        · have CB := C.blk s H scope C' cl fp
          split at g6
          · cases c <;> first
              | (cases g6; done)
              | exact ⟨fun pins s σ H Q I ⟨env, W, g, st, q⟩ => pts_nil.run pins s σ H Q I (Out.ret (α := Bool) (a := true) (k := fun b _ _ H' => Q b H') q st.zin st.pool)⟩
          · exact pts_one (okE TX c _ _ _ noW _ CB g6 k.2.1).t
          · cases g6
        · have CB := C.blk s H scope C' cl fp
          exact (okE TX y _ _ _ noW _ CB g5 k.2.2).v
      simp only [Bool.and_eq_true, Bool.not_eq_true'] at hs
      obtain ⟨⟨⟨s1, s2⟩, s3⟩, s4⟩ := hs
      have kd : X.env.scope.kind = .function := by
        rw [C.hsc]
        split at s1
        · assumption
        · cases s1
      have lc : X.env.scope.names.lookup x = some .local := by
        rw [C.hsc]
        split at s2
        · assumption
        · cases s2
      refine impS (ps_setLc C.calm hnd hi lc (sw_true kd lc s3 s4) pi (by rw [C.hN, C.hsc]; exact blkOk_by g1) (g := gTg X.K t) (tt := tB S noW (ev c).t) (te := tD S noW (ev y).v) (fun s H C' cl fp => ?_) (fun s H C' cl fp => ?_) (fun s H C' cl fp => ?_) hfs) fun D σ H q => ?_
      · have CB := C.blk s H scope C' cl fp
        exact pg_tg CB.hN CB.nd CB.calm CB.hsc CB.hfn g3
      · have CB := C.blk s H scope C' cl fp
        split at g6
        · cases c <;> first
            | (cases g6; done)
            | exact ⟨fun pins s σ H Q I ⟨env, W, g, st, q⟩ => pts_nil.run pins s σ H Q I (Out.ret (α := Bool) (a := true) (k := fun b _ _ H' => Q b H') q st.zin st.pool)⟩
        · exact pts_one (okE TX c _ _ _ noW _ CB g6 k.2.1).t
        · cases g6
      · have CB := C.blk s H scope C' cl fp
        exact (okE TX y _ _ _ noW _ CB g5 k.2.2).v
      · have q1 := own_rd hm hx0 D σ H q
        exact comp_rd C.K (fun j hj => of_decide_eq_true (List.all_eq_true.mp g2 j hj)) σ H _ q1
    · cases h
  | _ => cases hf
mutual
theorem okS (TX : Txt T S mg) (hm : m = false → ex = []) (hx0 : ∀ p ∈ ex, H0 p ≠ none) : ∀ (si : SI) (s : Stmt) (Wx : WX) (X : Cx) (F : Gh), CxtS P w mg base S lev N sc fn Wx X → chkS T N sc fn si s = true → knS (KnAt P w mg base S lev) si → PS X s (tS S Wx W0 H0 ex F (evS m si))
  | .drop hd e, s, Wx, X, F, C, h, k => by
    unfold chkS at h
    split at h
    · obtain ⟨h1, h2⟩ := all2 h
      exact ps_dropD hm (okE TX e sc fn _ Wx X C.toCxt h2 k).v h1
    · cases h
  | .set hd t e, s, Wx, X, F, C, h, k => by
    unfold chkS at h
    split at h
    · rename_i tg v p
      simp only [Bool.and_eq_true] at h
      obtain ⟨⟨⟨h1, h2⟩, h3⟩, h4⟩ := h
      have pe := (okE TX e sc fn _ Wx X C.toCxt h4 k).v
      have pg := pg_tg C.hN C.nd C.calm C.hsc C.hfn h1
      unfold tgOk at h3
      split at h3
      · rename_i y py
        cases t with
        | one i =>
          obtain ⟨x, p', hx, k1, k2, k3⟩ := chkNm_ok C.hsc C.hfn (show chkNm N sc fn i (.Name y py) = true from h1)
          cases hx
          exact ps_setD hm (by rw [C.hN]; exact C.nd) (by rw [C.hN]; exact k1) k2 k3 pe h2
        | many is => cases h1
      · exact ps_setT hm C.K pg pe h2 h3
      · cases h3
    · cases h
  | .own hd i e, s, Wx, X, F, C, h, k => by
    unfold chkS at h
    split at h
    · simp only [Bool.and_eq_true] at h
      obtain ⟨⟨⟨h1, h2⟩, h3⟩, h4⟩ := h
      exact okOwn TX C.toCxt hm hx0 h1 h3 h2 h4 k
    · cases h
  | .app hd i e, s, Wx, X, F, C, h, k => by
    unfold chkS at h
    split at h
    · simp only [Bool.and_eq_true, Bool.not_eq_true', decide_eq_true_eq] at h
      obtain ⟨⟨⟨⟨⟨⟨⟨rfl, h1⟩, h2⟩, h3⟩, h4⟩, h5⟩, h6⟩, h7⟩ := h
      exact ps_appD hm C.K (by rw [C.hN]; exact h1) (C.vis h2) h3 h4 (okE TX e sc fn _ Wx X C.toCxt h7 k).v h5 h6
    · cases h
  | .ext hd i e, s, Wx, X, F, C, h, k => by
    unfold chkS at h
    split at h
    · simp only [Bool.and_eq_true, Bool.not_eq_true', decide_eq_true_eq] at h
      obtain ⟨⟨⟨⟨⟨⟨⟨rfl, h1⟩, h2⟩, h3⟩, h4⟩, h5⟩, h6⟩, h7⟩ := h
      exact ps_extD hm C.K (by rw [C.hN]; exact h1) (C.vis h2) h3 h4 (okE TX e sc fn _ Wx X C.toCxt h7 k).v h5 h6
    · cases h
  | .fset hd i cs f e, s, Wx, X, F, C, h, k => by
    unfold chkS at h
    split at h
    · simp only [Bool.and_eq_true, Bool.not_eq_true', decide_eq_true_eq] at h
      obtain ⟨⟨⟨⟨⟨⟨⟨rfl, h1⟩, h2⟩, h3⟩, h4⟩, h5⟩, h6⟩, h7⟩ := h
      exact ps_fsetD hm C.K (by rw [C.hN]; exact h2) (C.vis h3) h4 h5 (fun c hc => TX.att c _ (of_decide_eq_true (List.all_eq_true.mp h1 c hc))) (okE TX e sc fn _ Wx X C.toCxt h7 k).v h6
    · cases h
  | .aug hd i op e, s, Wx, X, F, C, h, k => by
    unfold chkS at h
    split at h
    · simp only [Bool.and_eq_true, decide_eq_true_eq] at h
      obtain ⟨⟨rfl, h1⟩, h2⟩ := h
      obtain ⟨x, p', hx, k1, k2, k3⟩ := chkNm_ok C.hsc C.hfn h1
      cases hx
      exact ps_augD hm (by rw [C.hN]; exact C.nd) (by rw [C.hN]; exact k1) k2 k3 (okE TX e sc fn _ Wx X C.toCxt h2 k).v
    · cases h
  | .ret hd e, s, Wx, X, F, C, h, k => by
    unfold chkS at h
    split at h
    · exact ps_retD hm (okE TX e sc fn _ Wx X C.toCxt h k).v
    · cases h
  | .retN, s, Wx, X, F, C, h, k => by
    unfold chkS at h
    split at h
    · exact ps_retND
    · cases h
  | .ifs c a b, s, Wx, X, F, C, h, k => by
    unfold chkS at h
    split at h
    · simp only [Bool.and_eq_true] at h
      obtain ⟨⟨h1, h2⟩, h3⟩ := h
      exact ps_ifD (okE TX c sc fn _ Wx X C.toCxt h1 k.1).t (okSs TX hm hx0 a _ Wx X F C h2 k.2.1) (okSs TX hm hx0 b _ Wx X F C h3 k.2.2)
    · cases h
  | .for hd t it b, s, Wx, X, F, C, h, k => by
    unfold chkS at h
    split at h
    · simp only [Bool.and_eq_true] at h
      obtain ⟨⟨h1, h2⟩, h3⟩ := h
      have pg := pg_tg C.hN C.nd C.calm C.hsc C.hfn h1
      have body := fun F => okSs TX hm hx0 b _ Wx X F C h3 k.2
      by_cases hr : isRng it = true
      · obtain ⟨pi, hs⟩ := okIr TX C.toCxt hr h2 k.1
        have : evS m (.for hd t it b) = sForR m t (evi it) (evSs m b) := by unfold evS; rw [if_pos hr]
        rw [this]
        exact ps_forR C.K C.po C.calm pi pg body hs
      · obtain ⟨pi, hs⟩ := okI TX it sc fn _ _ Wx X C.toCxt h2 k.1
        have : evS m (.for hd t it b) = sFor m hd t (evi it) (evSs m b) := by unfold evS; rw [if_neg hr]
        rw [this]
        exact ps_forD hm C.K C.po C.calm pi pg body hs
    · cases h
  | .whl n c b, s, Wx, X, F, C, h, k => by
    unfold chkS at h
    split at h
    · obtain ⟨h1, h2⟩ := all2 h
      exact ps_whlD C.po (okE TX c sc fn _ Wx X C.toCxt h1 k.1).t (okSs TX hm hx0 b _ Wx X F C h2 k.2)
    · cases h
  | .brk, s, Wx, X, F, C, h, k => by
    unfold chkS at h
    split at h
    · exact ps_brkD
    · cases h
  | .cnt, s, Wx, X, F, C, h, k => by
    unfold chkS at h
    split at h
    · exact ps_cntD
    · cases h
  | .pass, s, Wx, X, F, C, h, k => by
    unfold chkS at h
    split at h
    · exact ps_passD
    · cases h
  | .pset hd i e, s, Wx, X, F, C, h, k => by
    unfold chkS at h
    split at h
    · simp only [Bool.and_eq_true, Bool.not_eq_true', decide_eq_true_eq] at h
      obtain ⟨⟨⟨⟨⟨⟨rfl, h1⟩, h2⟩, h3⟩, h4⟩, h5⟩, h6⟩ := h
      exact ps_psetD hm (by rw [C.hN]; exact h1) (C.vis h2) h3 h4 (okE TX e sc fn _ Wx X C.toCxt h6 k).v h5
    · cases h
  | .cset hd i e, s, Wx, X, F, C, h, k => by
    unfold chkS at h
    split at h
    · simp only [Bool.and_eq_true, Bool.not_eq_true', decide_eq_true_eq] at h
      obtain ⟨⟨⟨⟨⟨⟨rfl, h1⟩, h2⟩, h3⟩, h4⟩, h5⟩, h6⟩ := h
      exact ps_csetD hm (by rw [C.hN]; exact h1) (C.vis h2) h3 h4 (okE TX e sc fn _ Wx X C.toCxt h6 k).v h5
    · cases h
  | .cpop i, s, Wx, X, F, C, h, k => by
    unfold chkS at h
    split at h
    · simp only [Bool.and_eq_true, Bool.not_eq_true', decide_eq_true_eq] at h
      obtain ⟨⟨⟨⟨⟨⟨rfl, rfl⟩, h1⟩, h2⟩, h3⟩, h4⟩, h5⟩ := h
      exact ps_cpopD (by rw [C.hN]; exact h1) (C.vis h2) h3 h4 h5
    · cases h
  | .retP a b c, s, Wx, X, F, C, h, k => by
    unfold chkS at h
    split at h
    · simp only [Bool.and_eq_true] at h
      obtain ⟨⟨⟨⟨⟨⟨h1, h2⟩, h3⟩, h4⟩, h5⟩, h6⟩, h7⟩ := h
      exact ps_retPD (okE TX a sc fn _ Wx X C.toCxt h5 k.1).v (okE TX b sc fn _ Wx X C.toCxt h6 k.2.1).v (okCompF TX C.toCxt h4 h7 k.2.2) h1 h2 h3
    · cases h
  | .raise x c, s, Wx, X, F, C, h, k => by
    unfold chkS at h
    split at h
    · simp only [Bool.and_eq_true, decide_eq_true_eq] at h
      obtain ⟨⟨rfl, h1⟩, h2⟩ := h
      obtain ⟨h3, h4⟩ := C.gl h1
      exact ps_raiseD C.K C.hmg C.calm C.tk (TX.exc _ c h2) h3 h4
    · cases h
  | .try b x ms h', s, Wx, X, F, C, h, k => by
    unfold chkS at h
    split at h
    · simp only [Bool.and_eq_true, decide_eq_true_eq] at h
      obtain ⟨⟨⟨⟨rfl, h1⟩, h2⟩, h3⟩, h4⟩ := h
      obtain ⟨h5, h6⟩ := C.gl h1
      obtain ⟨cv, hc, hx⟩ := (TX.hnd _ ms h2).ex
      exact ps_tryD C.st C.fr C.K C.tk ⟨h5, h6, by rw [C.hmg]; exact hc⟩ hx (fun W pn xe tk po => okSs TX hm hx0 b _ W (X.tr pn xe) F ⟨⟨C.hP, C.hw, C.hmg, C.hbase, C.K, C.hN, C.nd, C.hsc, C.hfn, C.calm, tk, C.room, C.gd⟩, po, C.st, C.fr⟩ h3 k)
        fun a pn => okH (X := X.suite a pn) hm C.hN C.nd C.hsc C.hfn h4
    · cases h
  | .tryE b x ms ie i l, s, Wx, X, F, C, h, k => by
    unfold chkS at h
    split at h
    · unfold nmB at h
      simp only [Bool.and_eq_true, Bool.not_eq_true', decide_eq_true_eq] at h
      obtain ⟨⟨⟨⟨⟨⟨⟨⟨rfl, h1⟩, h2⟩, h3⟩, h4⟩, h5, h6⟩, h7⟩, h8⟩, h9⟩ := h
      obtain ⟨g1, g2⟩ := C.gl h1
      obtain ⟨cv, hc, hx⟩ := (TX.hnd _ ms h2).ex
      obtain ⟨y, p', hy, k1, k2, k3⟩ := chkNm_ok C.hsc C.hfn h7
      cases hy
      have hln := h4
      rw [← C.hsc] at hln
      exact ps_tryED C.st C.fr C.K C.hmg C.tk (by rw [C.hN]; exact C.nd) (fun x q => C.gl q) ⟨g1, g2, by rw [C.hmg]; exact hc⟩ hx (by rw [C.hN]; exact h3) hln (.inl hln) h5 h6 (TX.free _ (by decide +kernel)) (by rw [C.hN]; exact k1) k2 k3 h8 k.2
        (fun W pn xe tk po => okSs TX hm hx0 b _ W (X.tr pn xe) F ⟨⟨C.hP, C.hw, C.hmg, C.hbase, C.K, C.hN, C.nd, C.hsc, C.hfn, C.calm, tk, C.room, C.gd⟩, po, C.st, C.fr⟩ h9 k.1)
    · cases h
  | .tryN b hs, s, Wx, X, F, C, h, k => by
    unfold chkS at h
    split at h
    · simp only [Bool.and_eq_true] at h
      obtain ⟨h3, h4⟩ := h
      obtain ⟨l', hl⟩ := okHs (S := S) (W0 := W0) (H0 := H0) (F := F) (X := X) TX hm C.hmg C.hN C.nd C.hsc (fun x q => C.gl q) C.hfn h4
      exact ps_tryND C.st C.fr C.K C.tk (fun W pn xe tk po => okSs TX hm hx0 b _ W (X.tr pn xe) F ⟨⟨C.hP, C.hw, C.hmg, C.hbase, C.K, C.hN, C.nd, C.hsc, C.hfn, C.calm, tk, C.room, C.gd⟩, po, C.st, C.fr⟩ h3 k) hl
    · cases h
  | .put hd i ik e, s, Wx, X, F, C, h, k => by
    unfold chkS at h
    split at h
    · simp only [Bool.and_eq_true, Bool.not_eq_true', decide_eq_true_eq] at h
      obtain ⟨⟨⟨⟨⟨⟨⟨h1, h2⟩, h3⟩, h4⟩, h5⟩, h6⟩, h7⟩, h8⟩ := h
      exact ps_putD hm (by rw [C.hN]; exact h2) (C.vis h3) h4 h5 (okE TX e sc fn _ Wx X C.toCxt h8 k.2).v (okE TX ik sc fn _ Wx X C.toCxt h7 k.1).v h6 h1
    · cases h
  | .swp i ka kb e, s, Wx, X, F, C, h, k => by
    unfold chkS at h
    split at h
    · unfold nmB at h
      simp only [Bool.and_eq_true, Bool.not_eq_true', decide_eq_true_eq] at h
      obtain ⟨⟨⟨⟨⟨⟨⟨⟨⟨⟨⟨rfl, h2⟩, h3⟩, h4, h5⟩, h6⟩, h7⟩, h8, h9⟩, h10⟩, h11⟩, h12, h13⟩, h14⟩, h15⟩ := h
      exact ps_swpD hm C.K C.calm (by rw [C.hN]; exact h2) (C.vis h3) h4 h5 (by rw [C.hN]; exact h6) (C.vis h7) h8 h9 (by rw [C.hN]; exact h10) (C.vis h11) h12 h13 (okE TX e sc fn _ Wx X C.toCxt h15 k).v h14
    · cases h
  | .row i ip ik own x sf it, s, Wx, X, F, C, h, k => by
    unfold chkS at h
    split at h
    · unfold nmB at h
      simp only [Bool.and_eq_true, Bool.not_eq_true', decide_eq_true_eq, decide_eq_false_iff_not] at h
      obtain ⟨⟨⟨⟨⟨⟨⟨⟨⟨⟨⟨⟨⟨⟨⟨⟨⟨⟨⟨⟨⟨⟨rfl, rfl⟩, rfl⟩, rfl⟩, rfl⟩, h6⟩, h7⟩, h8⟩, h9⟩, h10⟩, h11⟩, h12⟩, h13, h13'⟩, h14, h14'⟩, h15, _⟩, h16⟩, h17⟩, h18⟩, h19⟩, h20⟩, h21⟩, h22⟩, h23⟩ := h
      obtain ⟨lv, hl, kn⟩ := k.1
      obtain ⟨pi, hs⟩ := okIr TX C.toCxt h22 h23 k.2
      exact ps_rowD C.toCxt TX hm kn hl h6 h7 h8 h9 h10 h11 h12 h13 h13' h14 h14' h16 h17 h18 h19 h20 h21 pi hs
    · cases h
theorem okSs (TX : Txt T S mg) (hm : m = false → ex = []) (hx0 : ∀ p ∈ ex, H0 p ≠ none) : ∀ (si : SIs) (s : List Stmt) (Wx : WX) (X : Cx) (F : Gh), CxtS P w mg base S lev N sc fn Wx X → chkSs T N sc fn si s = true → knSs (KnAt P w mg base S lev) si → PSs X s (tS S Wx W0 H0 ex F (evSs m si))
  | .nil, s, Wx, X, F, C, h, k => by
    unfold chkSs at h
    split at h
    · exact pss_nilD
    · cases h
  | .cons a r, s, Wx, X, F, C, h, k => by
    unfold chkSs at h
    split at h
    · obtain ⟨h1, h2⟩ := all2 h
      exact pss_consD (okS TX hm hx0 a _ Wx X F C h1 k.1) (okSs TX hm hx0 r _ Wx X F C h2 k.2)
    · cases h
end
end
end Dv
end
section
set_option maxHeartbeats 400000
/-! DvR: from the head's facts to what the evaluation wants. -/
namespace Dv
open PySem PySem.Spec PyProof.Rows L2
def hasF (fa : List He.Fa) (p : He.Fa → Bool) : Bool := fa.any p
def qGlo (x : Str) : He.Fa → Bool
  | .glo y => decide (y = x)
  | _ => false
def qFree (x : Str) : He.Fa → Bool
  | .free y => decide (y = x)
  | _ => false
def qInt (x : Str) (i : Int) : He.Fa → Bool
  | .int y j => decide (y = x) && decide (j = i)
  | _ => false
def qCls (x : Str) : He.Fa → Bool
  | .cls y => decide (y = x)
  | _ => false
def qNoat (x f : Str) : He.Fa → Bool
  | .noat y g => decide (y = x) && decide (g = f)
  | _ => false
def qMkr (x : Str) : He.Fa → Bool
  | .mkr y => decide (y = x)
  | _ => false
def qExc (x : Str) : He.Fa → Bool
  | .exc y => decide (y = x)
  | _ => false
def qExm (x y : Str) (b : Bool) : He.Fa → Bool
  | .exm x' y' b' => decide (x' = x) && decide (y' = y) && (b' == b)
  | _ => false
section
variable {fa : List He.Fa} {fn : List He.DefD} {K : PySem.W.Frag} {h : Heap} {mg : Str → Option Value}
theorem he_fact (c : He.SaysD fa fn K) {f : He.Fa} (hf : f ∈ fa) : f.ok K = true := by
  obtain ⟨i, hi⟩ := List.getElem?_of_mem hf
  exact c.fact i hi
theorem byGlo (c : He.SaysD fa fn K) (X : K.In h) (G : h.Ns mainGlobals mg) {x : Str} (q : hasF fa (qGlo x) = true) : mg x = some (.ref (He.ga K x)) := by
  obtain ⟨f, hf, hq⟩ := List.any_eq_true.mp q
  cases f <;> first
    | (cases hq; done)
    | (obtain rfl := of_decide_eq_true hq; exact He.glo_ok X G (he_fact c hf))
theorem byFree (c : He.SaysD fa fn K) (X : K.In h) (G : h.Ns mainGlobals mg) {x : Str} (q : hasF fa (qFree x) = true) : mg x = none := by
  obtain ⟨f, hf, hq⟩ := List.any_eq_true.mp q
  cases f <;> first
    | (cases hq; done)
    | (obtain rfl := of_decide_eq_true hq; exact He.free_ok X G (he_fact c hf))
theorem byInt (c : He.SaysD fa fn K) (X : K.In h) (G : h.Ns mainGlobals mg) {x : Str} {i : Int} (q : hasF fa (qInt x i) = true) : ∃ t, mg x = some (.int i t) := by
  obtain ⟨f, hf, hq⟩ := List.any_eq_true.mp q
  cases f <;> first
    | (cases hq; done)
    | (obtain ⟨h1, h2⟩ := all2 hq
       obtain rfl := of_decide_eq_true h1
       obtain rfl := of_decide_eq_true h2
       exact He.int_ok X G (he_fact c hf))
theorem byCls (c : He.SaysD fa fn K) {x : Str} (q : hasF fa (qCls x) = true) : Cls K (He.ga K x) := by
  obtain ⟨f, hf, hq⟩ := List.any_eq_true.mp q
  cases f <;> first
    | (cases hq; done)
    | (obtain rfl := of_decide_eq_true hq; exact He.cls_ok (he_fact c hf))
theorem byNoat (c : He.SaysD fa fn K) {x y : Str} (q : hasF fa (qNoat x y) = true) : NoAttr K (He.ga K x) y := by
  obtain ⟨f, hf, hq⟩ := List.any_eq_true.mp q
  cases f <;> first
    | (cases hq; done)
    | (obtain ⟨h1, h2⟩ := all2 hq
       obtain rfl := of_decide_eq_true h1
       obtain rfl := of_decide_eq_true h2
       exact He.noat_ok (he_fact c hf))
theorem byMkr (c : He.SaysD fa fn K) {x : Str} (q : hasF fa (qMkr x) = true) : Mk K (He.ga K x) (He.ma K (He.ga K x) "__init__") := by
  obtain ⟨f, hf, hq⟩ := List.any_eq_true.mp q
  cases f <;> first
    | (cases hq; done)
    | (obtain rfl := of_decide_eq_true hq; exact He.mkr_ok (he_fact c hf))
theorem byExc (c : He.SaysD fa fn K) {x : Str} (q : hasF fa (qExc x) = true) : PySem.W.excIn K (He.ga K x) He.veBase "ValueError.__new__" = true ∧ PySem.W.keepIn K (.ref (He.ga K x)) = true ∧ PySem.W.subIn K (.ref (He.ga K x)) (.type "BaseException") = some true ∧
    PySem.W.typeIn K (.ref (He.ga K x)) = some (.type "type") := by
  obtain ⟨f, hf, hq⟩ := List.any_eq_true.mp q
  cases f <;> first
    | (cases hq; done)
    | (obtain rfl := of_decide_eq_true hq; exact He.exc_ok (he_fact c hf))
theorem byExm (c : He.SaysD fa fn K) {x y : Str} {b : Bool} (q : hasF fa (qExm x y b) = true) : PySem.W.exmOne K (.ref (He.ga K x)) (.ref (He.ga K y)) = some b := by
  obtain ⟨f, hf, hq⟩ := List.any_eq_true.mp q
  cases f <;> first
    | (cases hq; done)
    | (obtain ⟨h1, h3⟩ := all2 hq
       obtain ⟨h1, h2⟩ := all2 h1
       obtain rfl := of_decide_eq_true h1
       obtain rfl := of_decide_eq_true h2
       obtain rfl := eq_of_beq h3
       exact He.exm_ok (he_fact c hf))
/-- the classes by their names -/
def SX (K : PySem.W.Frag) (nm : Nat → Str) : Sx := ⟨K, fun c => He.ga K (nm c)⟩
def txB (fa : List He.Fa) (nm : Nat → Str) (T : Tx) : Bool :=
  bnames.all (fun x => hasF fa (qFree x)) && T.att.all (fun p => hasF fa (qCls (nm p.1)) && hasF fa (qNoat (nm p.1) p.2)) && T.glob.all (fun p => hasF fa (qInt p.1 p.2)) &&
  T.exc.all (fun p => decide (p.1 = nm p.2) && hasF fa (qGlo p.1) && hasF fa (qExc p.1)) && T.hnd.all (fun p => hasF fa (qGlo p.1) && p.2.all fun r => hasF fa (qExm (nm r.1) p.1 r.2))
theorem txt_of (c : He.SaysD fa fn K) (X : K.In h) (G : h.Ns mainGlobals mg) {nm : Nat → Str} {T : Tx} (q : txB fa nm T = true) : Txt T (SX K nm) mg := by
  unfold txB at q
  simp only [Bool.and_eq_true, List.all_eq_true, decide_eq_true_eq] at q
  obtain ⟨⟨⟨⟨q1, q2⟩, q3⟩, q4⟩, q5⟩ := q
  refine ⟨fun x hx => byFree c X G (q1 x hx), fun k f hk => ⟨byCls c (q2 _ hk).1, byNoat c (q2 _ hk).2⟩, fun x i hx => byInt c X G (q3 _ hx), fun x k hx => ?_, fun x l hx => ?_⟩
  · obtain ⟨⟨h1, h2⟩, h3⟩ := q4 _ hx
    have h1 : x = nm k := h1
    obtain ⟨e1, e2, e3, e4⟩ := byExc c h3
    subst h1
    exact ⟨byGlo c X G h2, e2, ⟨_, _, _, _, PySem.F.excBase_ValueError, e1⟩, e3, e4⟩
  · obtain ⟨h1, h2⟩ := q5 _ hx
    exact ⟨_, .inl (byGlo c X G h1), fun k b hk => byExm c (h2 _ hk)⟩
end
section
variable {P : Program} {w : World} {mg : Str → Option Value} {base : Heap} {S : Sx} {lev : Nat} {T : Tx}
/-- a def is known -/
theorem known_of {x qual : Str} {params : Arguments} {body : List Stmt} {scope : Scope} {f : Addr} {fd : FuncData} {N ps : List Str} {ir : SIs} {n k : Nat} (TX : Txt T S mg) (F : FunD S.K x qual params body scope [] [] f fd) (Sc : FnScope N ps scope) (hm : mg x = some (.ref f))
    (hn : ps.length = n) (hk : N.length - ps.length = k) (hb : Binds S.K fd ps []) (hc : chkSs T N scope (fun _ => true) ir body = true) (kn : knSs (KnAt P w mg base S lev) ir) (hlv : lev < 40 := by decide) :
    Known P w S mg base (lev + 1) x n (runD k (evSs false ir)) := by
  subst hn hk
  exact ⟨f, fd, ps, fnOkD (hlv := hlv) F Sc fun X Wx W0 H0 C => okSs TX (fun _ => rfl) (fun p hp => by cases hp) ir body Wx X W0 C hc kn, hm, F.kp, hb⟩
/-- a class is known by its constructor -/
theorem knownC_of {x y qual : Str} {c : Nat} {params : Arguments} {body : List Stmt} {scope : Scope} {f : Addr} {fd : FuncData} {N ps : List Str} {p0 : Str} {ir : SIs} {n k : Nat} (TX : Txt T S mg) (F : FunD S.K y qual params body scope [] [] f fd) (Sc : FnScope N (p0 :: ps) scope)
    (hm : mg x = some (.ref (S.cls c))) (hM : Mk S.K (S.cls c) f)
    (hn : ps.length = n) (hk : N.length - (ps.length + 1) = k) (hb : Binds S.K fd (p0 :: ps) []) (hc : chkSs T N scope (fun _ => true) ir body = true) (kn : knSs (KnAt P w mg base S lev) ir) (hlv : lev < 40 := by decide) :
    KnownC P w S mg base (lev + 1) x c n (runX k (evSs true ir)) := by
  subst hn hk
  exact ⟨f, fd, p0 :: ps, fnOkX (hlv := hlv) F Sc fun X Wx W0 H0 x hx C => okSs TX (fun h => by cases h) (fun p hp => by rw [List.mem_singleton.mp hp]; exact hx) ir body Wx X W0 C hc kn, hm, hM, hb⟩
/-- an own == is known -/
theorem knownE_of {x qual : Str} {params : Arguments} {body : List Stmt} {scope : Scope} {f : Addr} {fd : FuncData} {N ps : List Str} {ir : SIs} {k : Nat} {K : PySem.W.Frag} {nm : Nat → Str} {prs : List (Nat × Nat)} (TX : Txt T (SX K nm) mg) (F : FunD K x qual params body scope [] [] f fd) (Sc : FnScope N ps scope)
    (hn : ps.length = 2) (hk : N.length - ps.length = k) (hb : Binds K fd ps []) (hc : chkSs T N scope (fun _ => true) ir body = true) (kn : knSs (KnAt P w mg base (SX K nm) lev) ir) (he : eqsB K nm f prs = true) (hlv : lev < 40 := by decide) :
    KnownE P w (SX K nm) mg base (lev + 1) prs (runD k (evSs false ir)) := by
  subst hk
  unfold eqsB at he
  rw [Bool.and_eq_true, List.all_eq_true] at he
  refine ⟨f, fd, ps, hn ▸ fnOkD (S := SX K nm) (hlv := hlv) F Sc fun X Wx W0 H0 C => okSs TX (fun _ => rfl) (fun p hp => by cases hp) ir body Wx X W0 C hc kn, hb, he.1, fun c1 c2 hp => ?_⟩
  have h := he.2 _ hp
  simp only [Bool.and_eq_true, decide_eq_true_eq] at h
  exact ⟨He.eqO_ok h.1, He.eqO_ok h.2.1, h.2.2.1, h.2.2.2⟩
theorem knownX_of {K : PySem.W.Frag} {nm : Nat → Str} {x : Str} {l : List (Nat × Bool)} (hm : mg x = some (.ref (He.ga K x))) (he : xisB K nm x l = true) : KnownX (SX K nm) mg x l := by
  unfold xisB at he
  rw [List.all_eq_true] at he
  refine ⟨He.ga K x, hm, fun c b hp => ?_⟩
  have h := he _ hp
  simp only [Bool.and_eq_true, decide_eq_true_eq] at h
  exact ⟨xcB_ok h.1, h.2⟩
theorem knownI_of {K : PySem.W.Frag} {nm : Nat → Str} {x : Str} {l : List (Nat × Bool)} (hm : mg x = some (.ref (He.ga K x))) (hc : ∀ c b, (c, b) ∈ l → Cls K (He.ga K (nm c))) (he : isisB K nm x l = true) : KnownI (SX K nm) mg x l := by
  unfold isisB at he
  simp only [Bool.and_eq_true, List.all_eq_true, decide_eq_true_eq] at he
  obtain ⟨h1, h2, h3⟩ := he
  refine ⟨He.ga K x, hm, fun c b hp => ?_⟩
  obtain ⟨h4, h5, h6⟩ := h3 _ hp
  exact ⟨hc c b hp, He.eqO_ok h4, He.eqO_ok h1, h2, h5, h6⟩
end
/-- nothing is let out: as the head wants it -/
theorem fnCalm {P : Program} {w : World} {K : PySem.W.Frag} {mg : Str → Option Value} {base : Heap} {k : Nat} {f : Addr} {fd : FuncData} {ps : List Str} {sp : Sp} (F : FnOk P w K mg base (L2.CX P w) k f fd ps sp) :
    FnOk P w K mg base CX0 k f fd ps fun vs H Q _ => sp vs H Q fun _ _ _ => False :=
  ⟨fun vs H Q _ h => F.len vs H Q _ h, fun A outer s H args us vs Q E hr e0 hb hv hs => codeAny_mono (F.run A outer s H args us vs Q _ hr e0 hb hv hs) fun r s' hq => by
    cases r with
    | error e =>
      obtain ⟨_, _, _, _, _, _, _, _, _, _, _, _, z⟩ := hq
      exact z.elim
    | ok fl => cases fl <;> exact hq⟩
/-- the law's def, at the script -/
theorem sp_law {S : Sx} {s : List D → M D} {H : Hp} {a : Addr} {ns : List Int} (hS : SqL S.K H a (ns.map V.int)) (hs : ∃ g, s [.scr ns] none = .ok (.bl true) g) : spD S 1 s [.ref a] H (fun v _ => v = .bl true) fun _ _ _ => False := by
  obtain ⟨g, hs⟩ := hs
  refine ⟨rfl, ⟨H, none⟩, none, [.scr ns], fun _ _ h => h, rfl, ⟨⟨a, rfl, hS⟩, trivial⟩, ?_⟩
  rw [hs]
  exact fun W' H' e z p v r => r
end Dv
end
section
set_option maxHeartbeats 400000
/-! DvFr: defs that give back a new object. -/
namespace Dv
open PySem PySem.Spec PyProof.Rows L2
def sRetF (hd : List Nat) (f : Env → M D) : SM := onF false hd f fun d env g => .ok (.rt d env) g
def sSeqN (a b : SM) : SM := fun env g => match a env g with
  | .ok (.nx e) g' => b e g'
  | .err e env' g' => .err e env' g'
  | _ => .stuck
def runN (n : Nat) (s : SM) : List D → M D := fun ds g => match s (envOf n ds) g with
  | .ok (.rt d _) g' => .ok d g'
  | .err e _ g' => .err e g'
  | _ => .stuck
/-- a new object by itself -/
def isFx : IR → Bool
  | .callN _ _ _ _ => true
  | .bi b _ => match b with
    | .sorted => true | .list => true | _ => false
  | _ => false
def isVr : IR → Bool
  | .var _ => true
  | _ => false
def isRetN : SI → Bool
  | .ret _ e => isFx e || isVr e
  | _ => false
/-- an own object given back -/
def sRetO (i : Nat) : SM := fun env g => match env[i]? with
  | some (some (d, true)) => .ok (.rt d env) g
  | _ => .stuck
def sRetX (hd : List Nat) (e : IR) : SM := match e with
  | .var i => sRetO i
  | e => sRetF hd (evF e)
def evSsN : SIs → SM
  | .nil => fun _ _ => .stuck
  | .cons a .nil => match a with
    | .ret hd e => sRetX hd e
    | _ => fun _ _ => .stuck
  | .cons a (.cons b r) => sSeqN (evS false a) (evSsN (.cons b r))
def lastN : SIs → Bool
  | .nil => false
  | .cons a .nil => isRetN a
  | .cons _ (.cons b r) => lastN (.cons b r)
def OutN (S : Sx) (Wx : WX) (W0 : Gh) (H0 : Hp) (F : Gh) (r : RS) (D : Ends) : Prop := match r with
  | .ok (.rt d env) g => ∀ p o σ W H, EnvOk S W0 H0 [] F W env σ H g → H0 p = none → W.Z p = none → ¬ inPool W p → H p = some o → RepO S W d o → D.rt (.ref p) H
  | .err e env g => ∀ σ W H c dx, EnvOk S W0 H0 [] F W env σ H g → ExRep S W H e c dx → Wx c dx σ H
  | _ => False
def tSN (S : Sx) (Wx : WX) (W0 : Gh) (H0 : Hp) (F : Gh) (s : SM) : TS := fun D σ H => ∃ env W g, EnvOk S W0 H0 [] F W env σ H g ∧ OutN S Wx W0 H0 F (s env g) D
section
variable {S : Sx} {Wx : WX} {X : Cx} {W0 : Gh} {H0 : Hp} {F : Gh}
theorem EnvOk.onN {W : Gh} {env : Env} {σ : L2.St} {H : Hp} {g : G} (E : EnvOk S W0 H0 [] F W env σ H g) {hd : List Nat} {f : Env → M D} {Dn : Ends} (q : OutN S Wx W0 H0 F (sRetF hd f env g) Dn) :
    tF S Wx f σ H fun v H' => Dn.rt v H' := by
  have key : OutS S Wx W0 H0 [] F (Dv.onF false hd f (fun d env' g' => @ite RS (sRetF hd f env g = .ok (.rt d env') g') (Classical.propDecidable _) (.ok (.nx env') g') .stuck) env g) ⟨fun _ _ => True, fun _ _ => True, fun _ _ => True, fun _ _ => True⟩ := by
    unfold sRetF at q ⊢
    unfold Dv.onF at q ⊢
    cases e : f (wipeE env hd) g with
    | stuck => rw [e] at q; exact q.elim
    | err x g1 =>
      rw [e] at q
      show OutS S Wx W0 H0 [] F (errS x env g1) _
      replace q : OutN S Wx W0 H0 F (errS x env g1) Dn := q
      unfold errS at q ⊢
      split at q
      · rename_i hi
        rw [if_pos hi]
        exact q
      · exact q.elim
    | ok d g1 =>
      obtain ⟨env1, ha⟩ : ∃ env1, after false hd (kids d) env = some env1 := by
        unfold after
        split
        · exact ⟨_, rfl⟩
        · exact ⟨_, rfl⟩
      simp only [ha, if_true]
      exact fun _ _ _ _ => trivial
  obtain ⟨env1, W1, g1, st, q1⟩ := E.onF (fun _ => rfl) key
  refine ⟨env1, W1, g1, st, q1.mono fun d g2 W2 H2 _ _ _ q2 p o hp hz np ho ro => ?_⟩
  obtain ⟨d', env', W', g', p', o', hv, E', a1, a2, a3, a4, a5, a6, _, a8⟩ := q2 p o hp hz np ho ro
  cases hv
  by_cases hc : sRetF hd f env g = .ok (.rt d' env') g'
  · rw [hc] at q
    exact q _ _ _ _ _ E' a8 a2 a3 a4 a5
  · rw [if_neg hc] at a6
    exact a6.elim
theorem ps_retF {hd : List Nat} {e : Expr} {f : Env → M D} {pos : Pos} (h : PE X e (tF S Wx f)) : PS X (.Return (some e) pos) (tSN S Wx W0 H0 F (sRetF hd f)) :=
  impS (ps_ret h) fun D σ H ⟨env, W, g, E, q⟩ => E.onN q
theorem ps_retO {i : Nat} {x : Str} {pos p : Pos} (hi : X.N[i]? = some x) (hv : Vis X.env.scope x) (h1 : (x == ("__debug__" : Str)) = false) (h2 : (x == ("__classdict__" : Str)) = false) : PS X (.Return (some (.Name x p)) pos) (tSN S Wx W0 H0 F (sRetO i)) :=
  impS (ps_ret (pe_var hi hv h1 h2)) fun D σ H ⟨env, W, g, E, q⟩ => by
    unfold sRetO at q
    split at q
    · rename_i d hd
      obtain ⟨v, k1, p, o, rfl, k2, k3, k4, k5, k6⟩ := E.own i d hd
      refine ⟨.ref p, k1, q p o σ W H E ?_ k2 k3 k4 k5⟩
      rcases k6 with k6 | k6
      · exact k6
      · cases k6
    · exact q.elim
theorem pss_lastN {st : Stmt} {a : SM} (h : PS X st (tSN S Wx W0 H0 F a)) : PSs X [st] (tSN S Wx W0 H0 F a) :=
  impSs (pss_cons h pss_nil) fun D σ H ⟨env, W, g, E, q⟩ => ⟨env, W, g, E, by
    revert q
    generalize a env g = r1
    intro q
    cases r1 with
    | stuck => exact q
    | err e env' g' => exact q
    | ok f g' => cases f <;> exact q⟩
theorem pss_consN {st : Stmt} {r : List Stmt} {a b : SM} (h1 : PS X st (tS S Wx W0 H0 [] F a)) (h2 : PSs X r (tSN S Wx W0 H0 F b)) : PSs X (st :: r) (tSN S Wx W0 H0 F (sSeqN a b)) :=
  impSs (pss_cons h1 h2) fun D σ H ⟨env, W, g, E, q⟩ => ⟨env, W, g, E, by
    unfold sSeqN at q
    revert q
    generalize a env g = r1
    intro q
    cases r1 with
    | stuck => exact q
    | err e env' g' => exact q
    | ok f g' =>
      cases f with
      | nx e => exact fun σ' W' H' E' => ⟨e, W', g', E', q⟩
      | rt d e => exact q.elim
      | bk e => exact q.elim
      | ct e => exact q.elim⟩
end
section
variable {P : Program} {w : World} {mg : Str → Option Value} {base : Heap} {S : Sx} {lev : Nat} {N : List Str} {T : Tx} {sc : Scope} {fn : Str → Bool}
theorem okFx (TX : Txt T S mg) {Wx : WX} {X : Cx} (C : Cxt P w mg base S lev N sc fn Wx X) : ∀ {ir : IR} {v : Expr}, isFx ir = true → chk T N sc fn ir v = true → knE (KnAt P w mg base S lev) ir → PE X v (tF S Wx (evF ir)) := by
  intro ir v hf h k
  cases ir with
  | bi b es =>
    unfold chk at h
    split at h
    · rename_i y p1 z zs p2
      simp only [Bool.and_eq_true, decide_eq_true_eq] at h
      obtain ⟨⟨⟨e1, h2⟩, h3⟩, h4⟩ := h
      subst e1
      have ha := okEs TX es sc fn _ Wx X C h4 k
      obtain ⟨h5, h6⟩ := C.gl h2
      obtain ⟨h7, h8⟩ := biName_ok b
      have hp' := all2 (by simpa only [List.all_cons] using h3)
      cases b <;> first
        | (cases hf; done)
        | exact impE (pe_callTy call_list_of h5 (C.fr TX h7) (by decide +kernel) ha h8 h6 (starEach_plain hp'.1) (noafter hp'.2)) (by rw [C.K]; exact tCBF_of opnf_list)
        | exact impE (pe_callB ((cr_sortedI.or (cr_sortedPO.or cr_sortedW)).or cr_sortedTu) h5 (C.fr TX h7) (by decide +kernel) ha h8 h6 (starEach_plain hp'.1) (noafter hp'.2)) (by rw [C.K]; exact tCBF_of opnf_sorted)
    · cases h
  | callN x n s as =>
    unfold chk at h
    split at h
    · rename_i y p1 z zs p2
      simp only [Bool.and_eq_true, decide_eq_true_eq] at h
      obtain ⟨⟨⟨e1, h2⟩, h3⟩, h4⟩ := h
      subst e1
      obtain ⟨lv, hl, kn⟩ := k.1
      obtain ⟨h5, h6⟩ := C.gl h2
      have ha := okEs TX as sc fn _ Wx X C h4 k.2
      have kn' : KnownN X.prog X.w S X.mg X.base lv y n s := by
        rw [C.hP, C.hw, C.hmg, C.hbase]; exact kn
      exact pe_callN C.K kn' (C.room.mono hl) h5 C.tk ha h6 h3
    · cases h
  | _ => cases hf
theorem okSsN (TX : Txt T S mg) {W0 : Gh} {H0 : Hp} {F : Gh} {Wx : WX} {X : Cx} (C : CxtS P w mg base S lev N sc fn Wx X) : ∀ (si : SIs) (s : List Stmt), lastN si = true → chkSs T N sc fn si s = true → knSs (KnAt P w mg base S lev) si → PSs X s (tSN S Wx W0 H0 F (evSsN si))
  | .nil, s, hl, _, _ => by cases hl
  | .cons a .nil, s, hl, h, k => by
    unfold chkSs at h
    split at h
    · rename_i s1 r1
      obtain ⟨h1, h2⟩ := Bool.and_eq_true_iff.mp h
      have hr : r1 = [] := by
        unfold chkSs at h2
        split at h2
        · rfl
        · cases h2
      subst hr
      cases a with
      | ret hd e =>
        unfold chkS at h1
        split at h1
        · by_cases hx : isFx e = true
          · have he : sRetX hd e = sRetF hd (evF e) := by
              cases e <;> first
                | rfl
                | cases hx
            show PSs X _ (tSN S Wx W0 H0 F (sRetX hd e))
            rw [he]
            exact pss_lastN (ps_retF (okFx TX C.toCxt hx h1 k.1))
          · have hvr : isVr e = true := by
              have hl' : (isFx e || isVr e) = true := hl
              rw [Bool.not_eq_true] at hx
              rw [hx, Bool.false_or] at hl'
              exact hl'
            cases e with
            | var i =>
              unfold chk at h1
              split at h1
              · simp only [Bool.and_eq_true, Bool.not_eq_true', decide_eq_true_eq] at h1
                obtain ⟨⟨⟨g1, g2⟩, g3⟩, g4⟩ := h1
                exact pss_lastN (ps_retO (by rw [C.hN]; exact g1) (C.vis g2) g3 g4)
              · cases h1
            | _ => cases hvr
        · cases h1
      | _ => cases hl
    · cases h
  | .cons a (.cons b r), s, hl, h, k => by
    unfold chkSs at h
    split at h
    · obtain ⟨h1, h2⟩ := Bool.and_eq_true_iff.mp h
      exact pss_consN (okS TX (fun _ => rfl) (fun p hp => by cases hp) a _ Wx X F C h1 k.1) (okSsN TX C (.cons b r) _ hl h2 k.2)
    · cases h
/-- such a def, by its body's evaluation -/
theorem fnOkN {x qual : Str} {params : Arguments} {body : List Stmt} {scope : Scope} {f : Addr} {fd : FuncData} {ps : List Str} {sb : SM} (F : FunD S.K x qual params body scope [] [] f fd) (Sc : FnScope N ps scope)
    (hb : ∀ (X : Cx) (Wx : WX) (W0 : Gh) (H0 : Hp), CxtS P w mg base S lev N scope (fun _ => true) Wx X → PSs X body (tSN S Wx W0 H0 W0 sb)) (hlv : lev < 40 := by decide) :
    FnOk P w S.K mg base (L2.CX P w) (lev + 1) f fd ps (spN S ps.length (runN (N.length - ps.length) sb)) := by
  refine F.ok Sc (fun vs H Q E h => h.1) fun cdv A outer s H vs Q E hr hsp => ?_
  obtain ⟨hl, W, g, ds, z, p, r, q⟩ := hsp
  refine ⟨tSN S (fun c dx _ H' => E c dx H') W H W sb, hb _ _ W H ⟨⟨rfl, rfl, rfl, rfl, rfl, rfl, Sc.nd, rfl, fun _ _ => rfl, rfl, L2.takes_of rfl rfl rfl rfl, hr, fun h => absurd h (by omega)⟩, L2.passes_of rfl, rfl, rfl⟩, envOf (N.length - ps.length) ds, W, g, ?_, ?_⟩
  · have := envOk_start (N := N) z p r
    rw [hl] at this
    exact this
  · unfold runN at q
    revert q
    cases sb (envOf (N.length - ps.length) ds) g with
    | stuck => exact fun q => q
    | err e env g' => exact fun q σ W' H' c dx E' r' => q W' H' c dx E'.ext E'.zin E'.pool r'
    | ok f g' =>
      cases f with
      | nx env => exact fun q => q
      | rt d env => exact fun q p o σ W' H' E' h0 hz np ho ro => q W' H' E'.ext E'.zin E'.pool p o h0 hz np ho ro
      | bk env => exact fun q => q
      | ct env => exact fun q => q
theorem knownN_of {x qual : Str} {params : Arguments} {body : List Stmt} {scope : Scope} {f : Addr} {fd : FuncData} {ps : List Str} {ir : SIs} {n k : Nat} (TX : Txt T S mg) (F : FunD S.K x qual params body scope [] [] f fd) (Sc : FnScope N ps scope) (hm : mg x = some (.ref f))
    (hn : ps.length = n) (hk : N.length - ps.length = k) (hb : Binds S.K fd ps []) (hc : chkSs T N scope (fun _ => true) ir body = true) (kn : knSs (KnAt P w mg base S lev) ir) (hlast : lastN ir = true) (hlv : lev < 40 := by decide) :
    KnownN P w S mg base (lev + 1) x n (runN k (evSsN ir)) := by
  subst hn hk
  exact ⟨f, fd, ps, fnOkN (hlv := hlv) F Sc fun X Wx W0 H0 C => okSsN TX C ir body hlast hc kn, hm, F.kp, hb⟩
end
/-- how it evaluates -/
theorem ERF : (∀ hd f env g, sRetF hd f env g = (match f (wipeE env hd) g with | .ok d g' => (match after false hd (kids d) env with | some env' => .ok (.rt d env') g' | none => .stuck) | .err e g' => errS e env g' | .stuck => .stuck)) ∧
    (∀ a b env g, sSeqN a b env g = (match a env g with | .ok (.nx e) g' => b e g' | .err e env' g' => .err e env' g' | _ => .stuck)) ∧
    (∀ hd e, evSsN (.cons (.ret hd e) .nil) = sRetX hd e) ∧ (∀ hd i, sRetX hd (.var i) = sRetO i) ∧ (∀ hd x n s as, sRetX hd (.callN x n s as) = sRetF hd (evF (.callN x n s as))) ∧ (∀ hd b es, sRetX hd (.bi b es) = sRetF hd (evF (.bi b es))) ∧ (∀ i env g, sRetO i env g = (match env[i]? with | some (some (d, true)) => .ok (.rt d env) g | _ => .stuck)) ∧ (∀ a b r, evSsN (.cons a (.cons b r)) = sSeqN (evS false a) (evSsN (.cons b r))) ∧
    (∀ x n s as, evF (.callN x n s as) = callM n s (evs as)) ∧ (∀ x n s as, (ev (.callN x n s as)).v = callM n s (evs as)) ∧ (∀ x n s as, (ev (.callN x n s as)).t = truM (callM n s (evs as))) := by
  refine ⟨?_, ?_, ?_, ?_, ?_, ?_, ?_, ?_, ?_, ?_, ?_⟩ <;> intros <;> rfl
end Dv
end
section
set_option maxHeartbeats 400000
/-! DvTop: a law's own def, called where nothing is being shown: its body may ask for repr. -/
namespace Dv
open PySem PySem.Spec PyProof.Rows L2
section
variable {P : Program} {w : World} {mg : Str → Option Value} {base : Heap} {S : Sx} {lev : Nat}
theorem topD {x qual : Str} {params : Arguments} {body : List Stmt} {scope : Scope} {f : Addr} {fd : FuncData} {N ps : List Str} {sb : SM} (F : FunD S.K x qual params body scope [] [] f fd) (Sc : FnScope N ps scope)
    (hsm : (base.get? sysModules).isSome = true) (hb : ∀ (X : Cx) (Wx : WX) (W0 : Gh) (H0 : Hp), CxtS P w mg base S lev N scope (fun _ => true) Wx X → PSs X body (tS S Wx W0 H0 [] W0 sb))
    {A : Around} {outer : List PySem.Env} {s0 : Shared} {H : Hp} {as : Args} {us : List Value} {vs : List V} {Q : VK} {E : XK} (hA : A.guards = some []) (hroom : Room (lev + 1) A) (e0 : Env0 P w S.K mg base A outer s0 H)
    (hbi : BindsTo s0 fd as (ps.zip us)) (rv : Vals vs us) (hsp : spD S ps.length (runD (N.length - ps.length) sb) vs H Q E) :
    codeAny (model P w) A (.call (.ref f) as) (CR (L2.CX P w) outer P w H s0 Q E) s0 := by
  obtain ⟨_, _, dV, kV, doc, pm, an, cdv, ct, osl, rfl, look, hrec, _, _⟩ := F.ex
  obtain ⟨hl, W, g, ds, z, p, r, q⟩ := hsp
  have inK : S.K.In s0.heap := e0.mod.kin.keeps fun c u q => (e0.bs c u q).1
  have noL : s0.heap.NoLimit := e0.mod.nolimit.keeps fun c u q => (e0.bs c u q).1
  have knd : ∀ y ∈ ps.zip us, scope.names.lookup y.1 = some .local ∨ (scope.names.lookup y.1 = some .cell ∧ ((cellsFrom (s0.heap.objs.size + 1) scope.names []).lookup y.1).isSome = true) := by
    rintro ⟨n, v⟩ hy
    exact (Sc.par n (List.of_mem_zip hy).1).imp id fun q => ⟨q, PySem.W.cellsFrom_some _ _ _ (.inl q)⟩
  refine codeAny_call_function hroom.depth (inK _ _ look) rfl Sc.co Sc.gen rfl (PySem.W.codeRec_of inK hrec) (hbi _ _ _ _ ?_)
  refine wpAny_newFunctionEnv_cells Sc.kind knd fun cenv hce s1 x1 => ?_
  subst hce
  refine ⟨noL.keeps x1.toInCall.keep, codeAny_func ?_⟩
  have I0 : Inv (cxOf (L2.CX P w) P w S.K mg base N qual scope f cdv A outer s0 H E) [] (start N vs) H s1 := inv_start Sc hroom.hd e0 hl rv x1
  have pss := hb (cxOf (L2.CX P w) P w S.K mg base N qual scope f cdv A outer s0 H E) (fun c dx _ H' => E c dx H') W H
    ⟨⟨rfl, rfl, rfl, rfl, rfl, rfl, Sc.nd, rfl, fun _ _ => rfl, rfl, L2.takes_of rfl rfl rfl rfl, hroom.deeper _, fun _ => ⟨hA, hsm⟩⟩, L2.passes_of rfl, rfl, rfl⟩
  have ends : ∀ {σ1 : L2.St} {H1 : Hp} {v : V} {u : Value} {s2 : Shared}, Inv (cxOf (L2.CX P w) P w S.K mg base N qual scope f cdv A outer s0 H E) [] σ1 H1 s2 → RelV v u → Q v H1 → CE outer P w H s0 Q u s2 :=
    fun J r1 q1 => ⟨_, _, J.os, J.bare, J.base, J.hok, r1, q1⟩
  refine wpAny_mono (pss.run [] s1 (start N vs) H { nx := fun _ H' => Q .non H', rt := Q } I0 ⟨envOf (N.length - ps.length) ds, W, g, ?_, ?_⟩) (fun fl s2 hs => ?_) fun e s2 hs => hs
  · have := envOk_start (N := N) z p r
    rw [hl] at this
    exact this
  · unfold runD at q
    revert q
    cases sb (envOf (N.length - ps.length) ds) g with
    | stuck => exact fun q => q
    | err e env g' => exact fun q σ W' H' c dx E' r' => q W' H' c dx E'.ext E'.zin E'.pool r'
    | ok f g' =>
      cases f with
      | nx env => exact fun q σ W' H' E' => q W' H' E'.ext E'.zin E'.pool .non rfl
      | rt d env => exact fun q v σ W' H' E' r' => q W' H' E'.ext E'.zin E'.pool v r'
      | bk env => exact fun q => q.elim
      | ct env => exact fun q => q.elim
  · cases fl with
    | ret u =>
      obtain ⟨v, σ1, H1, J, r1, q1⟩ := hs
      exact ends J r1 q1
    | next =>
      obtain ⟨σ1, H1, J, q1⟩ := hs
      exact ends (v := V.non) (u := Value.none) J rfl q1
    | brk => exact hs.elim fun _ h => h.elim fun _ h => h.2.elim
    | cont => exact hs.elim fun _ h => h.elim fun _ h => h.2.elim
/-- the law, by its body's evaluation at the script -/
theorem walkG {l : PySem.W.OpenLaw} {q : Program} {loose : List Str} {XP : (Str → Option Value) → Heap → Prop} {YP : World → Heap → Prop} {d : DefRec} (hmost : l.most = some 63) (hdf : d.params.defaults = [])
    (F : ∀ (w : World) (mg : Str → Option Value) (fa : Addr) (h : Heap), YP w h → h.Ns mainGlobals mg → mg d.name = some (.ref fa) →
      ∃ K : PySem.W.Frag, K.In h ∧ (∃ o, h.get? sysModules = some o ∧ o.cls = .type "dict") ∧ ∀ (base : Heap) (s1 : Shared) (H : Hp) (a : Addr) (ns : List Int), K.In base → base.Ns mainGlobals mg → (base.get? sysModules).isSome = true → Env0 l.prog w K mg base callerA [] s1 H → ns.length ≤ 63 → SqL K H a (ns.map V.int) →
        codeAny (model l.prog w) callerA (.call (.ref fa) ⟨[.ref a], []⟩) (CR (L2.CX l.prog w) [] l.prog w H s1 (fun v _ => v = .bl true) fun _ _ _ => False) s1) :
    PySem.W.WalkO q loose XP YP l.row.toRowW d [] (fun f vs => PySem.call f vs) := by
  refine Att.attach_call hmost hdf fun w s₀ s1 mg mb fa o pm cd doc a vs ns GG Y ho hd hcd hmg hobj hints hlen hgens => ?_
  obtain ⟨K, KX, ⟨os, hos, hcs⟩, run⟩ := F w mg fa _ Y GG.T.g hmg
  have hz63 : ns.length ≤ sizeLine := by rw [sizeLine_eq]; omega
  have rv := vals_ints hints
  have hlv := hints.length
  have main : ∀ H : Hp, Only H → SqL K H a (ns.map V.int) → HOk l.prog w H s1.heap → (∀ b, H b ≠ none → b = a) → (H a ≠ none → K.lookup a = none) →
      codeAny (model l.prog w) callerA (.call (.ref fa) ⟨[.ref a], []⟩) (fun r s' => r = .ok (.ret (.bool true)) ∧ OldK s1.heap s'.heap ∧ s'.os = s1.os ∧ AllBare s'.gens) s1 := by
    intro H only sq ok alone outK
    have objA : ∀ {b : Addr} {u : Obj}, s1.heap.get? b = some u → H b ≠ none → u = { cls := .type "list", data := .seq vs.toArray } := fun {b u} e n => by
      obtain rfl := alone b n
      rw [hobj] at e
      exact (Option.some.inj e).symm
    have freeD : ∀ {b : Addr} {u : Obj} {es : Array DictEntry} {ep : Nat}, s1.heap.get? b = some u → u.data = .dict es ep → H b = none := fun {b u es ep} e dd => by
      cases t : H b with
      | none => rfl
      | some y =>
        rw [objA e (by rw [t]; simp)] at dd
        cases dd
    have ns_of : ∀ {b : Addr} {m : Str → Option Value}, s1.heap.Ns b m → (hidT s1.heap H).Ns b m := by
      rintro b m ⟨u, es, ep, e, dd, r⟩
      exact ⟨u, es, ep, hidT_get e (freeD e dd), dd, r⟩
    have kb : K.In (hidT s1.heap H) := fun b u e => hidT_get (KX b u e) (by
      cases t : H b with
      | none => rfl
      | some y =>
        obtain rfl := alone b (by rw [t]; simp)
        rw [outK (by rw [t]; simp)] at e
        cases e)
    have lim : (hidT s1.heap H).NoLimit := by
      obtain ⟨mc, h1, h2⟩ := GG.T.nolimit
      exact ⟨mc, ns_of h1, h2⟩
    have modu : Mod K mg (hidT s1.heap H) := ⟨kb, ns_of GG.T.g, ⟨_, ns_of GG.T.b, GG.T.builtins⟩, lim⟩
    have env0 : Env0 l.prog w K mg (hidT s1.heap H) callerA [] s1 H := ⟨rfl, modu, fun b u e => of_hidT e, by rw [hidT_size]; exact Nat.le_refl _, trivial, (fun b hb => by cases hb), ok, .of_eq hgens⟩
    have nsy : H sysModules = none := by
      cases t : H sysModules with
      | none => rfl
      | some y =>
        rw [objA hos (by rw [t]; simp)] at hcs
        simp at hcs
    refine codeAny_mono (run _ s1 H a ns kb (ns_of GG.T.g) (by rw [hidT_get hos nsy]; rfl) env0 hlen sq) fun r s' h => ?_
    cases r with
    | error e =>
      obtain ⟨_, _, _, _, _, _, _, _, _, _, _, _, bad⟩ := h
      exact bad.elim
    | ok fl =>
      cases fl with
      | ret u =>
        obtain ⟨v, H', os, bare, un, ok', rel, rfl⟩ := h
        obtain rfl : u = Value.bool true := rel
        refine ⟨rfl, OldK.of_keep fun b y e => ?_, os, bare⟩
        rcases only b with t | ⟨yo, xs, t⟩
        · exact un.keep b y e t (fun hx => by cases hx) (by simp)
        · obtain ⟨e1, _⟩ := ok b _ t
          obtain ⟨e2, _⟩ := ok' b _ (un.frzs b yo _ t)
          rw [e] at e1
          cases e1
          exact e2
      | next => exact h.elim
      | brk => exact h.elim
      | cont => exact h.elim
  cases hk : K.lookup a with
  | some u =>
    have e := KX a u hk
    rw [hobj] at e
    cases e
    refine main (fun _ => none) (fun _ => .inl rfl) (.inr ⟨_, vs.toArray, _, hk, rfl, rfl, rfl, ?_, ?_⟩) (fun b y t => by cases t) (fun b t => absurd rfl t) (fun t => absurd rfl t)
    · rw [List.size_toArray, hlv]; exact hz63
    · simpa using rv
  | none =>
    have at_a : ∀ {b : Addr} {y : HO}, (fun b : Addr => if b = a then some (HO.frz { cls := .type "list", data := .seq vs.toArray } (.lst (ns.map V.int))) else none) b = some y → b = a ∧ y = .frz { cls := .type "list", data := .seq vs.toArray } (.lst (ns.map V.int)) := by
      intro b y t
      by_cases hb : b = a
      · exact ⟨hb, by simpa [hb] using t.symm⟩
      · simp [hb] at t
    refine main (fun b : Addr => if b = a then some (HO.frz { cls := .type "list", data := .seq vs.toArray } (.lst (ns.map V.int))) else none) (fun b => ?_) (.inl (.inr ⟨{ cls := .type "list", data := .seq vs.toArray }, if_pos rfl⟩)) (fun b y t => ?_) (fun b t => ?_) fun _ => hk
    · by_cases hb : b = a
      · exact .inr ⟨_, _, if_pos hb⟩
      · exact .inl (if_neg hb)
    · obtain ⟨rfl, rfl⟩ := at_a t
      exact ⟨hobj, by rw [List.length_map]; exact hz63, vs, _, rv, hobj⟩
    · cases u : (if b = a then some (HO.frz { cls := .type "list", data := .seq vs.toArray } (.lst (ns.map V.int))) else none : Option HO) with
      | none => exact absurd u t
      | some y => exact (at_a u).1
/-! the head's look, with one look more: the dict of the modules -/
def sysB : Option Obj → Bool
  | some ⟨.type c, _, _, _⟩ => decide (c = "dict")
  | _ => false
theorem sysB_ok {o : Option Obj} (h : sysB o = true) : ∃ u, o = some u ∧ u.cls = .type "dict" := by
  unfold sysB at h
  split at h
  · exact ⟨_, rfl, by rw [of_decide_eq_true h]⟩
  · cases h
abbrev AlR : Type := He.AlX × Bool
def obsR (n : Nat) (fa : List He.Fa) (fn : List He.DefD) (ex : PySem.W.Frag → Bool) (g : Addr → Option Obj) : AlR := (He.obsX n fa fn [] [] ex g, sysB (g sysModules))
def hookR (n : Nat) (fa : List He.Fa) (fn : List He.DefD) (ex : PySem.W.Frag → Bool) : PySem.W.Hook where
  α := AlR
  obs := fun s => obsR n fa fn ex s.heap.get?
  val := fun w => (He.valX fn [] w, true)
  says := fun w h => (He.hookX n fa fn [] [] ex).says w h ∧ ∃ u, h.get? sysModules = some u ∧ u.cls = .type "dict"
  of := fun w s e => ⟨(He.hookX n fa fn [] [] ex).of w s (congrArg (fun z : AlR => z.1) e), sysB_ok (congrArg (fun z : AlR => z.2) e)⟩
  keeps := fun w h h' z k => ⟨(He.hookX n fa fn [] [] ex).keeps w h h' z.1 k, z.2.elim fun u q => ⟨u, k _ _ q.1, q.2⟩⟩
theorem obsR_eq {n : Nat} {fa : List He.Fa} {fn : List He.DefD} {ex : PySem.W.Frag → Bool} {g : Addr → Option Obj} {s : Shared} (h : ∀ a, g a = s.heap.get? a) : obsR n fa fn ex g = (hookR n fa fn ex).obs s := by
  have e : g = s.heap.get? := funext h
  rw [e]
  rfl
end
end Dv
end
section
set_option maxHeartbeats 400000
/-! DvS: rewriting rules of the evaluation. -/
namespace Dv
open PySem PySem.Spec PyProof.Rows L2
theorem bind_ret {α β : Type} (a : α) (f : α → M β) : (M.ret a).bind f = f a := rfl
theorem ret_g {α : Type} (a : α) (g : G) : M.ret a g = .ok a g := rfl
theorem bind_g {α β : Type} (m : M α) (f : α → M β) (g : G) : m.bind f g = (match m g with | .ok a g' => f a g' | .err e g' => .err e g' | .stuck => .stuck) := rfl
theorem of_some {α : Type} (a : α) : M.of (some a) = M.ret a := rfl
/-- expressions -/
theorem EV :
    (∀ i, (ev (.var i)).v = getM i) ∧ (∀ d, (ev (.cst d)).v = fun _ => M.ret d) ∧ (∀ n, (ev (.tyn n)).v = fun _ => M.ret (.con (.ty n))) ∧ (∀ x i, (ev (.glb x i)).v = fun _ => M.ret (.int i)) ∧
    (∀ es, (ev (.tup es)).v = thenM (evs es) (sizeOk .tup)) ∧ (∀ es, (ev (.lst es)).v = thenM (evs es) (sizeOk .lst)) ∧ ((ev .dnew).v = fun _ => M.ret (.dct [])) ∧
    (∀ op a b, (ev (.bin op a b)).v = bind2 (binO op) (ev a).v (ev b).v) ∧ (∀ a, (ev (.neg a)).v = bind1 negD (ev a).v) ∧ (∀ a, (ev (.not a)).v = notM (ev a).v) ∧ (∀ a b, (ev (.and a b)).v = Dv.andM (ev a).v (ev b).v) ∧
    (∀ a b, (ev (.or a b)).v = Dv.orM (ev a).v (ev b).v) ∧ (∀ a, (ev (.last a)).v = (ev a).v) ∧ (∀ op a b, (ev (.cmp op a b)).v = bind2 (cmpO op) (ev a).v (ev b).v) ∧ (∀ op op' a b c, (ev (.chain op op' a b c)).v = chainM op op' (ev a).v (ev b).v (ev c).v) ∧
    (∀ c a b, (ev (.ite c a b)).v = iteM (ev c).t (ev a).v (ev b).v) ∧ (∀ x n s as, (ev (.call x n s as)).v = callM n s (evs as)) ∧ (∀ x c n s as, (ev (.make x c n s as)).v = makeM c n s (evs as)) ∧ (∀ b as, (ev (.bi b as)).v = thenM (evs as) (biO b)) ∧
    (∀ as, (ev (.isi as)).v = thenM (evs as) isiF) ∧ (∀ cs a f, (ev (.fld cs a f)).v = bind1 (fldO cs f) (ev a).v) ∧ (∀ a i, (ev (.idx a i)).v = bind2 idxO (ev a).v (ev i).v) ∧ (∀ a i, (ev (.pidx a i)).v = pixM (ev a).v (ev i).v) ∧ (∀ a, (ev (.plen a)).v = plenM (ev a).v) ∧
    (∀ a lo hi, (ev (.slc a lo hi)).v = slcM (ev a).v (ev lo).p (ev hi).p) ∧ (∀ own t it c e, (ev (.comp own t it c e)).v = compM (own.map (·.2)) t (evi it) (ev c).t (ev e).v) ∧
    ((ev .nop).p = noP) ∧ (∀ d, (ev (.cst d)).p = someP fun _ => M.ret d) ∧ (∀ i, (ev (.var i)).p = someP (getM i)) ∧ (∀ op a b, (ev (.bin op a b)).p = someP (bind2 (binO op) (ev a).v (ev b).v)) ∧ ((ev .yes).t = yesT) ∧ (∀ a, (ev (.not a)).t = notT (ev a).t) ∧
    (∀ a b, (ev (.and a b)).t = andT (ev a).t (ev b).t) ∧ (∀ a b, (ev (.or a b)).t = orT (ev a).t (ev b).t) ∧ (∀ a, (ev (.last a)).t = (ev a).t) ∧ (∀ op a b, (ev (.cmp op a b)).t = truM (bind2 (cmpO op) (ev a).v (ev b).v)) ∧ (∀ op op' a b c, (ev (.chain op op' a b c)).t = truM (chainM op op' (ev a).v (ev b).v (ev c).v)) ∧
    (∀ c a b, (ev (.ite c a b)).t = iteM (ev c).t (ev a).t (ev b).t) ∧ (∀ x n s as, (ev (.call x n s as)).t = truM (callM n s (evs as))) ∧ (∀ b as, (ev (.bi b as)).t = truM (thenM (evs as) (biO b))) ∧ (∀ as, (ev (.isi as)).t = truM (thenM (evs as) isiF)) ∧ (∀ i, (ev (.var i)).t = truM (getM i)) ∧
    (∀ d, (ev (.cst d)).t = truM fun _ => M.ret d) ∧ (∀ cs a f, (ev (.fld cs a f)).t = truM (bind1 (fldO cs f) (ev a).v)) ∧ (∀ a i, (ev (.idx a i)).t = truM (bind2 idxO (ev a).v (ev i).v)) ∧
    (evs .nil = nilM) ∧ (∀ a r, evs (.cons a r) = consM (ev a).v (evs r)) ∧ (∀ a, evi (.rng1 a) = thenL (consM (ev a).v nilM) rng1O) ∧ (∀ a b, evi (.rng2 a b) = thenL (consM (ev a).v (consM (ev b).v nilM)) rng2O) ∧ (∀ a, evi (.seq a) = seqM (ev a).v) ∧ (∀ a b, evi (.zip a b) = thenL (consM (ev a).v (consM (ev b).v nilM)) zipO) := by
  refine ⟨?_, ?_, ?_, ?_, ?_, ?_, ?_, ?_, ?_, ?_, ?_, ?_, ?_, ?_, ?_, ?_, ?_, ?_, ?_, ?_, ?_, ?_, ?_, ?_, ?_, ?_, ?_, ?_, ?_, ?_, ?_, ?_, ?_, ?_, ?_, ?_, ?_, ?_, ?_, ?_, ?_, ?_, ?_, ?_, ?_, ?_, ?_, ?_, ?_, ?_, ?_⟩ <;> intros <;> rfl
theorem EVS : (∀ a, (ev (.sset a)).v = bind1 ssetO (ev a).v) := fun _ => rfl
theorem EV2 : (∀ a, (ev (.lset a)).v = bind1 lsetO (ev a).v) ∧ (∀ a, (ev (.lset a)).t = truM (bind1 lsetO (ev a).v)) ∧ (∀ a, (ev (.rev a)).v = bind1 revO (ev a).v) ∧ (∀ t as, (ev (.rg t as)).v = thenM (evs as) (rgO t)) ∧ (∀ a e, (ev (.idm a e)).v = idmM (ev a).v (ev e).v) ∧
    (∀ a, evi (.enum a) = thenL (consM (ev a).v nilM) enumO) ∧ (∀ m hd i k e, evS m (.put hd i k e) = sPut m hd i (ev k).v (ev e).v) ∧ (∀ m i ip ik own x s it, evS m (.row i ip ik own x s it) = sRow m i ip s (evi it)) ∧
    (∀ es, evF (.bi .list es) = thenM (evs es) (biO .list)) ∧ (∀ es, evF (.bi .sorted es) = thenM (evs es) (biO .sorted)) ∧ (∀ es, evF (.rg false es) = thenM (evs es) (rgO false)) ∧ (∀ a b, evF (.bin .Add a b) = ownM (bind2 addD (ev a).v (ev b).v)) ∧
    (∀ a lo hi, evF (.slc a lo hi) = ownM (slcM (ev a).v (ev lo).p (ev hi).p)) ∧ (∀ b as, (ev (.bi b as)).p = someP (thenM (evs as) (biO b))) ∧ (∀ a i, (ev (.idx a i)).p = someP (bind2 idxO (ev a).v (ev i).v)) ∧ (∀ x n s as, (ev (.call x n s as)).p = someP (callM n s (evs as))) := by
  refine ⟨?_, ?_, ?_, ?_, ?_, ?_, ?_, ?_, ?_, ?_, ?_, ?_, ?_, ?_, ?_, ?_⟩ <;> intros <;> rfl
section
variable {n_ : Nat}
theorem g_ownM : ∀ f env g, ownM f env g = (match f env g with | .ok d g' => (match asL d with | some c => .ok c g' | none => .stuck) | .err e g' => .err e g' | .stuck => .stuck) := by
  intro f env g; unfold ownM M.bind; cases f env g with
  | ok d g' => simp only; cases asL d <;> rfl
  | _ => rfl
theorem g_idmM : ∀ f k env g, idmM f k env g = (match f env g with | .ok d g' => (match asL d with | some c => (match k env g' with | .ok e g'' => (match idmO c e with | some r => .ok r g'' | none => .stuck) | .err e g' => .err e g' | .stuck => .stuck) | none => .stuck) | .err e g' => .err e g' | .stuck => .stuck) := by
  intro f k env g; unfold idmM M.bind; cases f env g with
  | ok d g' => simp only; cases asL d with
    | none => rfl
    | some c => simp only [M.of, M.ret]; cases k env g' with
      | ok e g'' => simp only; cases idmO c e <;> rfl
      | _ => rfl
  | _ => rfl
theorem g_getM : ∀ i env g, getM i env g = (match env[i]? with | some (some (d, _)) => .ok d g | _ => .stuck) := by
  intro i env g; unfold getM; split <;> simp_all [M.ret, M.fail]
theorem g_notM : ∀ f env g, notM f env g = (match f env g with | .ok d g' => (match tru d with | some b => .ok (.bl (!b)) g' | none => .stuck) | .err e g' => .err e g' | .stuck => .stuck) := by
  intro f env g; unfold notM M.bind; cases f env g with
  | ok d g' => simp only; cases tru d <;> rfl
  | _ => rfl
theorem g_andM : ∀ f k env g, Dv.andM f k env g = (match f env g with | .ok d g' => (match tru d with | some b => if b = true then k env g' else .ok d g' | none => .stuck) | .err e g' => .err e g' | .stuck => .stuck) := by
  intro f k env g; unfold Dv.andM M.bind; cases f env g with
  | ok d g' => simp only; cases tru d with
    | none => rfl
    | some b => cases b <;> rfl
  | _ => rfl
theorem g_orM : ∀ f k env g, Dv.orM f k env g = (match f env g with | .ok d g' => (match tru d with | some b => if b = true then .ok d g' else k env g' | none => .stuck) | .err e g' => .err e g' | .stuck => .stuck) := by
  intro f k env g; unfold Dv.orM M.bind; cases f env g with
  | ok d g' => simp only; cases tru d with
    | none => rfl
    | some b => cases b <;> rfl
  | _ => rfl
theorem g_notT : ∀ f env g, notT f env g = (match f env g with | .ok b g' => .ok (!b) g' | .err e g' => .err e g' | .stuck => .stuck) := by
  intro f env g; unfold notT M.bind; cases f env g <;> rfl
theorem g_andT : ∀ f k env g, andT f k env g = (match f env g with | .ok b g' => if b = true then k env g' else .ok false g' | .err e g' => .err e g' | .stuck => .stuck) := by
  intro f k env g; unfold andT M.bind; cases f env g with
  | ok b g' => cases b <;> rfl
  | _ => rfl
theorem g_orT : ∀ f k env g, orT f k env g = (match f env g with | .ok b g' => if b = true then .ok true g' else k env g' | .err e g' => .err e g' | .stuck => .stuck) := by
  intro f k env g; unfold orT M.bind; cases f env g with
  | ok b g' => cases b <;> rfl
  | _ => rfl
theorem g_iteM : ∀ (c : Env → M Bool) (f k : Env → M D) env g, iteM c f k env g = (match c env g with | .ok b g' => if b = true then f env g' else k env g' | .err e g' => .err e g' | .stuck => .stuck) := by
  intro c f k env g; unfold iteM M.bind; cases c env g with
  | ok b g' => cases b <;> rfl
  | _ => rfl
theorem g_iteT : ∀ (c : Env → M Bool) (f k : Env → M Bool) env g, iteM c f k env g = (match c env g with | .ok b g' => if b = true then f env g' else k env g' | .err e g' => .err e g' | .stuck => .stuck) := by
  intro c f k env g; unfold iteM M.bind; cases c env g with
  | ok b g' => cases b <;> rfl
  | _ => rfl
theorem g_truM : ∀ f env g, truM f env g = (match f env g with | .ok d g' => (match tru d with | some b => .ok b g' | none => .stuck) | .err e g' => .err e g' | .stuck => .stuck) := by
  intro f env g; unfold truM M.bind; cases f env g with
  | ok d g' => simp only; cases tru d <;> rfl
  | _ => rfl
theorem g_bind2 : ∀ F fa fb env g, bind2 F fa fb env g = (match fa env g with | .ok d g' => (match fb env g' with | .ok e g'' => (match F d e with | some c => .ok c g'' | none => .stuck) | .err e g' => .err e g' | .stuck => .stuck) | .err e g' => .err e g' | .stuck => .stuck) := by
  intro F fa fb env g; unfold bind2 M.bind; cases fa env g with
  | ok d g' => simp only; cases fb env g' with
    | ok e g'' => simp only; cases F d e <;> rfl
    | _ => rfl
  | _ => rfl
theorem g_bind1 : ∀ F fa env g, bind1 F fa env g = (match fa env g with | .ok d g' => (match F d with | some c => .ok c g' | none => .stuck) | .err e g' => .err e g' | .stuck => .stuck) := by
  intro F fa env g; unfold bind1 M.bind; cases fa env g with
  | ok d g' => simp only; cases F d <;> rfl
  | _ => rfl
theorem g_nilM : ∀ env g, nilM env g = .ok [] g := by
  intro env g; rfl
theorem g_consM : ∀ f fs env g, consM f fs env g = (match f env g with | .ok d g' => (match fs env g' with | .ok ds g'' => .ok (d :: ds) g'' | .err e g' => .err e g' | .stuck => .stuck) | .err e g' => .err e g' | .stuck => .stuck) := by
  intro f fs env g; unfold consM M.bind; cases f env g with
  | ok d g' => simp only; cases fs env g' <;> rfl
  | _ => rfl
theorem g_thenM : ∀ fs F env g, thenM fs F env g = (match fs env g with | .ok ds g' => (match F ds with | some c => .ok c g' | none => .stuck) | .err e g' => .err e g' | .stuck => .stuck) := by
  intro fs F env g; unfold thenM M.bind; cases fs env g with
  | ok d g' => simp only; cases F d <;> rfl
  | _ => rfl
theorem g_thenL : ∀ fs F env g, thenL fs F env g = (match fs env g with | .ok ds g' => (match F ds with | some c => .ok c g' | none => .stuck) | .err e g' => .err e g' | .stuck => .stuck) := by
  intro fs F env g; unfold thenL M.bind; cases fs env g with
  | ok d g' => simp only; cases F d <;> rfl
  | _ => rfl
theorem g_seqM : ∀ f env g, seqM f env g = (match f env g with | .ok d g' => (match seqO d with | some c => .ok c g' | none => .stuck) | .err e g' => .err e g' | .stuck => .stuck) := by
  intro f env g; unfold seqM M.bind; cases f env g with
  | ok d g' => simp only; cases seqO d <;> rfl
  | _ => rfl
theorem g_callM : ∀ n s fs env g, callM n s fs env g = (match fs env g with | .ok ds g' => if ds.length = n then s ds g' else .stuck | .err e g' => .err e g' | .stuck => .stuck) := by
  intro n s fs env g; unfold callM M.bind; cases fs env g with
  | ok d g' => simp only; split <;> rfl
  | _ => rfl
theorem g_chainM : ∀ op op' fa fb fc env g, chainM op op' fa fb fc env g = (match fa env g with | .ok d g' => (match fb env g' with | .ok e g'' => (match cmpD op d e with | some b => if b = true then (match fc env g'' with | .ok x g3 => (match cmpO op' e x with | some c => .ok c g3 | none => .stuck) | .err e g' => .err e g' | .stuck => .stuck) else .ok (.bl false) g'' | none => .stuck) | .err e g' => .err e g' | .stuck => .stuck) | .err e g' => .err e g' | .stuck => .stuck) := by
  intro op op' fa fb fc env g; unfold chainM M.bind; cases fa env g with
  | ok d g' => simp only; cases fb env g' with
    | ok e g'' => simp only; cases cmpD op d e with
      | none => rfl
      | some b => cases b with
        | false => rfl
        | true => simp only [M.of, M.ret, if_true]; cases fc env g'' with
          | ok x g3 => simp only; cases cmpO op' e x <;> rfl
          | _ => rfl
    | _ => rfl
  | _ => rfl
theorem g_slcM : ∀ fa fl fh env g, slcM fa fl fh env g = (match fa env g with | .ok d g1 => (match fl env g1 with | .ok lo g2 => (match fh env g2 with | .ok hi g3 => (match slcO d lo hi with | some c => .ok c g3 | none => .stuck) | .err e g' => .err e g' | .stuck => .stuck) | .err e g' => .err e g' | .stuck => .stuck) | .err e g' => .err e g' | .stuck => .stuck) := by
  intro fa fl fh env g; unfold slcM M.bind; cases fa env g with
  | ok d g' => simp only; cases fl env g' with
    | ok e g'' => simp only; cases fh env g'' with
      | ok x g3 => simp only; cases slcO d e x <;> rfl
      | _ => rfl
    | _ => rfl
  | _ => rfl
theorem g_noP : ∀ env g, noP env g = .ok none g := by
  intro env g; rfl
theorem g_someP : ∀ f env g, someP f env g = (match f env g with | .ok d g' => (match asI d with | some i => .ok (some i) g' | none => .stuck) | .err e g' => .err e g' | .stuck => .stuck) := by
  intro f env g; unfold someP M.bind; cases f env g with
  | ok d g' => simp only; cases asI d <;> rfl
  | _ => rfl
theorem g_yesT : ∀ env g, yesT env g = .ok true g := by
  intro env g; rfl
theorem g_retg : ∀ (d : D) g, M.ret d g = .ok d g := by
  intro d g; rfl
theorem s_sNext : ∀ env g, sNext env g = .ok (.nx env) g := by
  intros; rfl
theorem s_sSeq : ∀ a b env g, sSeq a b env g = (match a env g with | .ok (.nx e) g' => b e g' | r => r) := by
  intros; rfl
theorem s_sIf : ∀ c a b env g, sIf c a b env g = (match c env g with | .ok t g' => (if t = true then a else b) env g' | .err e g' => errS e env g' | .stuck => .stuck) := by
  intros; rfl
theorem s_sSet : ∀ m hd t f env g, sSet m hd t f env g = (match f (wipeE env hd) g with | .ok d g' => (match after m hd (imm d) env with | some env' => (match setTg t d env' with | some e => .ok (.nx e) g' | none => .stuck) | none => .stuck) | .err e g' => errS e env g' | .stuck => .stuck) := by
  intros; rfl
theorem s_sRet : ∀ m hd f env g, sRet m hd f env g = (match f (wipeE env hd) g with | .ok d g' => (match after m hd (imm d) env with | some env' => .ok (.rt d env') g' | none => .stuck) | .err e g' => errS e env g' | .stuck => .stuck) := by
  intros; rfl
theorem s_sDrop : ∀ m hd f env g, sDrop m hd f env g = (match f (wipeE env hd) g with | .ok d g' => (match after m hd (imm d) env with | some env' => .ok (.nx env') g' | none => .stuck) | .err e g' => errS e env g' | .stuck => .stuck) := by
  intros; rfl
theorem s_sRetN : ∀ env g, sRetN env g = .ok (.rt .non env) g := by
  intros; rfl
theorem s_sOwn : ∀ m hd i f env g, sOwn m hd i f env g = (match f (wipeE env hd) g with | .ok d g' => (match after m hd (kids d) env with | some env' => if (m && i == 0) = true then .stuck else .ok (.nx (env'.set i (some (d, true)))) g' | none => .stuck) | .err e g' => errS e env g' | .stuck => .stuck) := by
  intros; rfl
theorem s_sRaise : ∀ c env g, sRaise c env g = .err ⟨c, []⟩ env g := by
  intros; rfl
theorem s_sBrk : ∀ env g, sBrk env g = .ok (.bk env) g := by
  intros; rfl
theorem s_sCnt : ∀ env g, sCnt env g = .ok (.ct env) g := by
  intros; rfl
theorem s_sFset : ∀ m hd i cs f fe env g, sFset m hd i cs f fe env g = (match fe (wipeE env hd) g with | .ok d g' => (match after m hd (imm d) env with | some env' => (match ownO env' i with | some (c, fs) => if c ∈ cs ∧ fs.length < 1000 then .ok (.nx (env'.set i (some (.obj c (putD f d fs), true)))) g' else .stuck | none => .stuck) | none => .stuck) | .err e g' => errS e env g' | .stuck => .stuck) := by
  intros; rfl
theorem s_sTry : ∀ ms b h env g, sTry ms b h env g = (match b env g with | .err e env' g' => (match ms.lookup e.c with | some true => (match h env' g' with | .err _ _ _ => .stuck | r => r) | some false => .err e env' g' | none => .stuck) | r => r) := by
  intros; rfl
theorem s_sForR : ∀ m t f b env g, sForR m t f b env g = (match f env g with | .ok ds g' => forGo t b ds env g' | .err e g' => errS e env g' | .stuck => .stuck) := by
  intros; rfl
theorem s_sFor : ∀ m hd t f b env g, sFor m hd t f b env g = (match f (wipeE env hd) g with | .ok ds g' => (match after m hd false env with | some env' => forGo t b ds env' g' | none => .stuck) | .err e g' => errS e env g' | .stuck => .stuck) := by
  intros; rfl
end
theorem EG2 : (∀ f env g, ownM f env g = (match f env g with | .ok d g' => (match asL d with | some c => .ok c g' | none => .stuck) | .err e g' => .err e g' | .stuck => .stuck)) ∧
    (∀ f k env g, idmM f k env g = (match f env g with | .ok d g' => (match asL d with | some c => (match k env g' with | .ok e g'' => (match idmO c e with | some r => .ok r g'' | none => .stuck) | .err e g' => .err e g' | .stuck => .stuck) | none => .stuck) | .err e g' => .err e g' | .stuck => .stuck)) := ⟨g_ownM, g_idmM⟩
theorem EG : (∀ i env g, getM i env g = (match env[i]? with | some (some (d, _)) => .ok d g | _ => .stuck)) ∧ (∀ f env g, notM f env g = (match f env g with | .ok d g' => (match tru d with | some b => .ok (.bl (!b)) g' | none => .stuck) | .err e g' => .err e g' | .stuck => .stuck)) ∧ (∀ f k env g, Dv.andM f k env g = (match f env g with | .ok d g' => (match tru d with | some b => if b = true then k env g' else .ok d g' | none => .stuck) | .err e g' => .err e g' | .stuck => .stuck)) ∧ (∀ f k env g, Dv.orM f k env g = (match f env g with | .ok d g' => (match tru d with | some b => if b = true then .ok d g' else k env g' | none => .stuck) | .err e g' => .err e g' | .stuck => .stuck)) ∧ (∀ f env g, notT f env g = (match f env g with | .ok b g' => .ok (!b) g' | .err e g' => .err e g' | .stuck => .stuck)) ∧ (∀ f k env g, andT f k env g = (match f env g with | .ok b g' => if b = true then k env g' else .ok false g' | .err e g' => .err e g' | .stuck => .stuck)) ∧ (∀ f k env g, orT f k env g = (match f env g with | .ok b g' => if b = true then .ok true g' else k env g' | .err e g' => .err e g' | .stuck => .stuck)) ∧ (∀ (c : Env → M Bool) (f k : Env → M D) env g, iteM c f k env g = (match c env g with | .ok b g' => if b = true then f env g' else k env g' | .err e g' => .err e g' | .stuck => .stuck)) ∧ (∀ (c : Env → M Bool) (f k : Env → M Bool) env g, iteM c f k env g = (match c env g with | .ok b g' => if b = true then f env g' else k env g' | .err e g' => .err e g' | .stuck => .stuck)) ∧ (∀ f env g, truM f env g = (match f env g with | .ok d g' => (match tru d with | some b => .ok b g' | none => .stuck) | .err e g' => .err e g' | .stuck => .stuck)) ∧ (∀ F fa fb env g, bind2 F fa fb env g = (match fa env g with | .ok d g' => (match fb env g' with | .ok e g'' => (match F d e with | some c => .ok c g'' | none => .stuck) | .err e g' => .err e g' | .stuck => .stuck) | .err e g' => .err e g' | .stuck => .stuck)) ∧ (∀ F fa env g, bind1 F fa env g = (match fa env g with | .ok d g' => (match F d with | some c => .ok c g' | none => .stuck) | .err e g' => .err e g' | .stuck => .stuck)) ∧ (∀ env g, nilM env g = .ok [] g) ∧ (∀ f fs env g, consM f fs env g = (match f env g with | .ok d g' => (match fs env g' with | .ok ds g'' => .ok (d :: ds) g'' | .err e g' => .err e g' | .stuck => .stuck) | .err e g' => .err e g' | .stuck => .stuck)) ∧ (∀ fs F env g, thenM fs F env g = (match fs env g with | .ok ds g' => (match F ds with | some c => .ok c g' | none => .stuck) | .err e g' => .err e g' | .stuck => .stuck)) ∧ (∀ fs F env g, thenL fs F env g = (match fs env g with | .ok ds g' => (match F ds with | some c => .ok c g' | none => .stuck) | .err e g' => .err e g' | .stuck => .stuck)) ∧ (∀ f env g, seqM f env g = (match f env g with | .ok d g' => (match seqO d with | some c => .ok c g' | none => .stuck) | .err e g' => .err e g' | .stuck => .stuck)) ∧ (∀ n s fs env g, callM n s fs env g = (match fs env g with | .ok ds g' => if ds.length = n then s ds g' else .stuck | .err e g' => .err e g' | .stuck => .stuck)) ∧ (∀ op op' fa fb fc env g, chainM op op' fa fb fc env g = (match fa env g with | .ok d g' => (match fb env g' with | .ok e g'' => (match cmpD op d e with | some b => if b = true then (match fc env g'' with | .ok x g3 => (match cmpO op' e x with | some c => .ok c g3 | none => .stuck) | .err e g' => .err e g' | .stuck => .stuck) else .ok (.bl false) g'' | none => .stuck) | .err e g' => .err e g' | .stuck => .stuck) | .err e g' => .err e g' | .stuck => .stuck)) ∧ (∀ fa fl fh env g, slcM fa fl fh env g = (match fa env g with | .ok d g1 => (match fl env g1 with | .ok lo g2 => (match fh env g2 with | .ok hi g3 => (match slcO d lo hi with | some c => .ok c g3 | none => .stuck) | .err e g' => .err e g' | .stuck => .stuck) | .err e g' => .err e g' | .stuck => .stuck) | .err e g' => .err e g' | .stuck => .stuck)) ∧ (∀ env g, noP env g = .ok none g) ∧ (∀ f env g, someP f env g = (match f env g with | .ok d g' => (match asI d with | some i => .ok (some i) g' | none => .stuck) | .err e g' => .err e g' | .stuck => .stuck)) ∧ (∀ env g, yesT env g = .ok true g) ∧ (∀ (d : D) g, M.ret d g = .ok d g) := ⟨g_getM, g_notM, g_andM, g_orM, g_notT, g_andT, g_orT, g_iteM, g_iteT, g_truM, g_bind2, g_bind1, g_nilM, g_consM, g_thenM, g_thenL, g_seqM, g_callM, g_chainM, g_slcM, g_noP, g_someP, g_yesT, g_retg⟩
theorem ES : (∀ env g, sNext env g = .ok (.nx env) g) ∧ (∀ a b env g, sSeq a b env g = (match a env g with | .ok (.nx e) g' => b e g' | r => r)) ∧ (∀ c a b env g, sIf c a b env g = (match c env g with | .ok t g' => (if t = true then a else b) env g' | .err e g' => errS e env g' | .stuck => .stuck)) ∧ (∀ m hd t f env g, sSet m hd t f env g = (match f (wipeE env hd) g with | .ok d g' => (match after m hd (imm d) env with | some env' => (match setTg t d env' with | some e => .ok (.nx e) g' | none => .stuck) | none => .stuck) | .err e g' => errS e env g' | .stuck => .stuck)) ∧ (∀ m hd f env g, sRet m hd f env g = (match f (wipeE env hd) g with | .ok d g' => (match after m hd (imm d) env with | some env' => .ok (.rt d env') g' | none => .stuck) | .err e g' => errS e env g' | .stuck => .stuck)) ∧ (∀ m hd f env g, sDrop m hd f env g = (match f (wipeE env hd) g with | .ok d g' => (match after m hd (imm d) env with | some env' => .ok (.nx env') g' | none => .stuck) | .err e g' => errS e env g' | .stuck => .stuck)) ∧ (∀ env g, sRetN env g = .ok (.rt .non env) g) ∧ (∀ m hd i f env g, sOwn m hd i f env g = (match f (wipeE env hd) g with | .ok d g' => (match after m hd (kids d) env with | some env' => if (m && i == 0) = true then .stuck else .ok (.nx (env'.set i (some (d, true)))) g' | none => .stuck) | .err e g' => errS e env g' | .stuck => .stuck)) ∧ (∀ c env g, sRaise c env g = .err ⟨c, []⟩ env g) ∧ (∀ env g, sBrk env g = .ok (.bk env) g) ∧ (∀ env g, sCnt env g = .ok (.ct env) g) ∧ (∀ m hd i cs f fe env g, sFset m hd i cs f fe env g = (match fe (wipeE env hd) g with | .ok d g' => (match after m hd (imm d) env with | some env' => (match ownO env' i with | some (c, fs) => if c ∈ cs ∧ fs.length < 1000 then .ok (.nx (env'.set i (some (.obj c (putD f d fs), true)))) g' else .stuck | none => .stuck) | none => .stuck) | .err e g' => errS e env g' | .stuck => .stuck)) ∧ (∀ ms b h env g, sTry ms b h env g = (match b env g with | .err e env' g' => (match ms.lookup e.c with | some true => (match h env' g' with | .err _ _ _ => .stuck | r => r) | some false => .err e env' g' | none => .stuck) | r => r)) ∧ (∀ m t f b env g, sForR m t f b env g = (match f env g with | .ok ds g' => forGo t b ds env g' | .err e g' => errS e env g' | .stuck => .stuck)) ∧ (∀ m hd t f b env g, sFor m hd t f b env g = (match f (wipeE env hd) g with | .ok ds g' => (match after m hd false env with | some env' => forGo t b ds env' g' | none => .stuck) | .err e g' => errS e env g' | .stuck => .stuck)) := ⟨s_sNext, s_sSeq, s_sIf, s_sSet, s_sRet, s_sDrop, s_sRetN, s_sOwn, s_sRaise, s_sBrk, s_sCnt, s_sFset, s_sTry, s_sForR, s_sFor⟩
theorem EI :
    (∀ m hd e, evS m (.drop hd e) = sDrop m hd (ev e).v) ∧ (∀ m hd t e, evS m (.set hd t e) = sSet m hd t (ev e).v) ∧ (∀ m hd i e, evS m (.own hd i e) = sOwn m hd i (evF e)) ∧ (∀ m hd i e, evS m (.app hd i e) = sApp m hd i (ev e).v) ∧
    (∀ m hd i cs f e, evS m (.fset hd i cs f e) = sFset m hd i cs f (ev e).v) ∧ (∀ m hd i op e, evS m (.aug hd i op e) = sAug m hd i op (ev e).v) ∧ (∀ m hd e, evS m (.ret hd e) = sRet m hd (ev e).v) ∧ (∀ m, evS m .retN = sRetN) ∧
    (∀ m c a b, evS m (.ifs c a b) = sIf (ev c).t (evSs m a) (evSs m b)) ∧ (∀ m hd t it b, evS m (.for hd t it b) = if isRng it then sForR m t (evi it) (evSs m b) else sFor m hd t (evi it) (evSs m b)) ∧
    (∀ m, evS m .brk = sBrk) ∧ (∀ m, evS m .cnt = sCnt) ∧ (∀ m, evS m .pass = sNext) ∧ (∀ m x c, evS m (.raise x c) = sRaise c) ∧ (∀ m hd i e, evS m (.pset hd i e) = sPset m hd i (ev e).v) ∧ (∀ m hd i e, evS m (.cset hd i e) = sCset m hd i (ev e).v) ∧ (∀ m i, evS m (.cpop i) = sCpop i) ∧
    (∀ m a b c, evS m (.retP a b c) = sRetP (ev a).v (ev b).v (evF c)) ∧ (∀ m b x ms h, evS m (.try b x ms h) = sTry ms (evSs m b) (evH m h)) ∧ (∀ m, evSs m .nil = sNext) ∧ (∀ m a r, evSs m (.cons a r) = sSeq (evS m a) (evSs m r)) ∧
    (∀ m, evH m [] = sNext) ∧ (∀ m a r, evH m (a :: r) = sSeq (evH1 m a) (evH m r)) ∧ (∀ m i e, evH1 m (.set i e) = sSet m [] (.one i) (ev e).v) ∧ (∀ m e, evH1 m (.ret e) = sRet m [] (ev e).v) ∧ (∀ m, evH1 m .pass = sNext) ∧ (∀ es, evF (.lst es) = (ev (.lst es)).v) ∧ (∀ own t it c e, evF (.comp own t it c e) = (ev (.comp own t it c e)).v) := by
  refine ⟨?_, ?_, ?_, ?_, ?_, ?_, ?_, ?_, ?_, ?_, ?_, ?_, ?_, ?_, ?_, ?_, ?_, ?_, ?_, ?_, ?_, ?_, ?_, ?_, ?_, ?_, ?_, ?_⟩ <;> intros <;> rfl
theorem after_imm {m : Bool} {hd : List Nat} {env : Env} : after m hd true env = some env := rfl
theorem after_f {hd : List Nat} {env : Env} : after false hd false env = some (frzE hd env) := rfl
theorem ETN : (∀ m b hs, evS m (.tryN b hs) = sTryN (hs.map fun h => (h.2.1, evH m h.2.2)) (evSs m b)) ∧
    (∀ hs b env g, sTryN hs b env g = (match b env g with | .err e env' g' => goH hs e env' g' | r => r)) ∧ (∀ e env g, goH [] e env g = .err e env g) ∧
    (∀ ms h r e env g, goH ((ms, h) :: r) e env g = (match ms.lookup e.c with | some true => (match h env g with | .err _ _ _ => .stuck | r => r) | some false => goH r e env g | none => .stuck)) := by
  refine ⟨?_, ?_, ?_, ?_⟩ <;> intros <;> rfl
theorem ECF : (∀ x n s as, (ev (.callF x n s as)).v = callF n s (evs as)) ∧ (∀ x n s as, (ev (.callF x n s as)).t = truM (callF n s (evs as))) ∧
    (∀ n s fs env g, callF n s fs env g = (match fs env g with | .ok ds g' => if ds.length = n ∧ ds.all isScr = true then flagM (s ds none) g' else .stuck | .err e g' => .err e g' | .stuck => .stuck)) := by
  refine ⟨?_, ?_, ?_⟩ <;> intros
  · rfl
  · rfl
  · rename_i n s fs env g
    unfold callF M.bind
    cases fs env g with
    | ok ds g' =>
      simp only
      by_cases h : ds.length = n ∧ ds.all isScr = true
      · rw [if_pos h, if_pos h]
      · rw [if_neg h, if_neg h]; rfl
    | _ => rfl
theorem EOE : (∀ ne prs s a b, (ev (.oeq ne prs s a b)).v = oeqM ne prs s (ev a).v (ev b).v) ∧ (∀ ne prs s a b, (ev (.oeq ne prs s a b)).t = truM (oeqM ne prs s (ev a).v (ev b).v)) ∧
    (∀ a x l, (ev (.isc a x l)).v = bind1 (iscO l) (ev a).v) ∧ (∀ a x l, (ev (.isc a x l)).t = truM (bind1 (iscO l) (ev a).v)) ∧
    (∀ ne prs s fa fb env g, oeqM ne prs s fa fb env g = (match fa env g with | .ok d g' => (match fb env g' with | .ok e g'' => oeqD ne prs s d e g'' | .err e g' => .err e g' | .stuck => .stuck) | .err e g' => .err e g' | .stuck => .stuck)) := by
  refine ⟨?_, ?_, ?_, ?_, ?_⟩ <;> intros
  · rfl
  · rfl
  · rfl
  · rfl
  · rename_i ne prs s fa fb env g
    unfold oeqM M.bind
    cases fa env g with
    | ok d g' => simp only; cases fb env g' <;> rfl
    | _ => rfl
theorem ETE : (∀ m b x ms ie i l, evS m (.tryE b x ms ie i l) = sTryE ms ie i l (evSs m b)) ∧
    (∀ ms ie i l b env g, sTryE ms ie i l b env g = (match b env g with
      | .err e env' g' => (match ms.lookup e.c with
        | some true => if e.fs = [] ∧ ie < env'.length ∧ l.length ≤ 1000 then (match flagsO l e.c with
          | some bs => .ok (.nx (((env'.set ie none).set i (some (.lst (bs.map .bl), false))).set ie none)) g'
          | none => .stuck) else .stuck
        | some false => .err e env' g'
        | none => .stuck)
      | r => r)) := by
  refine ⟨?_, ?_⟩ <;> intros <;> rfl
end Dv
end
section
set_option maxHeartbeats 400000
/-! DvT: loops, comprehensions, lists of ints: how they evaluate. -/
namespace Dv
open PySem PySem.Spec PyProof.Rows L2
theorem g_compM (own : List Nat) (t : Tg) (fi : Env → M (List D)) (ft : Env → M Bool) (fe : Env → M D) (env : Env) (g : G) :
    compM own t fi ft fe env g = (match fi env g with | .ok ds g' => if ds.length ≤ sizeLine then (match compGo (compStep own t env ft fe) ds g' with | .ok xs g'' => .ok (.lst xs) g'' | .err e g' => .err e g' | .stuck => .stuck) else .stuck | .err e g' => .err e g' | .stuck => .stuck) := by
  unfold compM M.bind
  cases fi env g with
  | ok ds g' =>
    simp only
    by_cases h : ds.length ≤ sizeLine
    · rw [if_pos h, if_pos h]
      cases compGo (compStep own t env ft fe) ds g' <;> rfl
    · rw [if_neg h, if_neg h]
      rfl
  | _ => rfl
theorem g_step1 (own : List Nat) (i : Nat) (env : Env) (ft : Env → M Bool) (fe : Env → M D) (d : D) (g : G) :
    compStep own (.one i) env ft fe d g = (match ft ((wipeE env own).set i (some (d, false))) g with | .ok b g' => if b = true then (match fe ((wipeE env own).set i (some (d, false))) g' with | .ok x g'' => .ok (some x) g'' | .err e g' => .err e g' | .stuck => .stuck) else .ok none g' | .err e g' => .err e g' | .stuck => .stuck) := by
  show (ft _).bind _ g = _
  unfold M.bind
  cases ft ((wipeE env own).set i (some (d, false))) g with
  | ok b g' =>
    cases b with
    | false => rfl
    | true =>
      simp only [if_true]
      cases fe ((wipeE env own).set i (some (d, false))) g' <;> rfl
  | _ => rfl
theorem compGo_map {α : Type} (step : D → M (Option D)) (emb : α → D) (p : α → Bool) (f : α → D) (g : G) : ∀ xs : List α, (∀ x ∈ xs, step (emb x) g = .ok (if p x = true then some (f x) else none) g) → compGo step (xs.map emb) g = .ok ((xs.filter p).map f) g
  | [], _ => rfl
  | x :: xs, h => by
    have ih := compGo_map step emb p f g xs fun y hy => h y (List.mem_cons_of_mem _ hy)
    have h1 := h x List.mem_cons_self
    show ((step (emb x)).safe.bind fun o => (compGo step (xs.map emb)).bind fun ys => .ret (match o with | some x => x :: ys | none => ys)) g = _
    unfold M.bind M.safe
    rw [h1]
    simp only
    rw [ih]
    by_cases hp : p x = true
    · rw [if_pos hp, List.filter_cons_of_pos hp]; rfl
    · rw [if_neg hp, List.filter_cons_of_neg hp]; rfl
theorem compGo_all {α : Type} (step : D → M (Option D)) (emb : α → D) (f : α → D) (g : G) (xs : List α) (h : ∀ x ∈ xs, step (emb x) g = .ok (some (f x)) g) : compGo step (xs.map emb) g = .ok (xs.map f) g := by
  have := compGo_map step emb (fun _ => true) f g xs fun x hx => by rw [h x hx]; rfl
  rw [this, List.filter_eq_self.mpr (fun _ _ => rfl)]
/-- a for without a break -/
theorem forGo_inv {t : Tg} {b : SM} {ds : List D} (I : Nat → Env → G → Prop) {env : Env} {g : G} (h0 : I 0 env g)
    (step : ∀ (i : Nat) (hi : i < ds.length) (env : Env) (g : G), I i env g → ∃ env1, setTg t ds[i] env = some env1 ∧ ∃ env' g', (b env1 g = .ok (.nx env') g' ∨ b env1 g = .ok (.ct env') g') ∧ I (i + 1) env' g') :
    ∃ env' g', forGo t b ds env g = .ok (.nx env') g' ∧ I ds.length env' g' := by
  have key : ∀ (k i : Nat) (env : Env) (g : G), i + k = ds.length → I i env g → ∃ env' g', forGo t b (ds.drop i) env g = .ok (.nx env') g' ∧ I ds.length env' g' := by
    intro k
    induction k with
    | zero =>
      intro i env g hi h
      have : i = ds.length := by omega
      subst this
      rw [List.drop_length]
      exact ⟨env, g, rfl, h⟩
    | succ k ih =>
      intro i env g hi h
      have hlt : i < ds.length := by omega
      obtain ⟨env1, h1, env', g', h2, h3⟩ := step i hlt env g h
      obtain ⟨env2, g2, h4, h5⟩ := ih (i + 1) env' g' (by omega) h3
      refine ⟨env2, g2, ?_, h5⟩
      rw [List.drop_eq_getElem_cons hlt]
      unfold forGo
      rw [h1]
      simp only
      rcases h2 with h2 | h2
      · rw [h2]; exact h4
      · rw [h2]; exact h4
  exact key ds.length 0 env g (by omega) h0
theorem intsD_map (xs : List Int) : intsD (xs.map D.int) = some xs := by
  induction xs with
  | nil => rfl
  | cons x r ih => show (intsD (r.map D.int)).map (x :: ·) = _; rw [ih]; rfl
theorem boolsD_map {α : Type} (f : α → Bool) (xs : List α) : boolsD (xs.map fun x => D.bl (f x)) = some (xs.map f) := by
  induction xs with
  | nil => rfl
  | cons x r ih => show (boolsD (r.map fun x => D.bl (f x))).map (f x :: ·) = _; rw [ih]; rfl
theorem toPs_ints (xs : List Int) : toPs (xs.map D.int) = some (xs.map PyData.int) := by
  induction xs with
  | nil => rfl
  | cons x r ih =>
    show (match toP (.int x), toPs (r.map D.int) with | some p, some ps => some (p :: ps) | _, _ => none) = _
    rw [ih]
    rfl
theorem can_ints (xs : List Int) : PyData.canLayAll0 (xs.map PyData.int) = true := by
  induction xs with
  | nil => rfl
  | cons x r ih => show (true && PyData.canLayAll0 (r.map PyData.int)) = true; rw [ih]; rfl
theorem depth_ints (xs : List Int) : PyData.depthAll (xs.map PyData.int) = 0 := by
  induction xs with
  | nil => simp [PyData.depthAll]
  | cons x r ih => simp [PyData.depthAll, PyData.depth, ih]
theorem shaped_tup (xs : List Int) : SeqAt.shaped (.tuple (xs.map PyData.int)) = true := by
  unfold SeqAt.shaped
  have h1 : PyData.canLay0 (.tuple (xs.map PyData.int)) = true := by unfold PyData.canLay0; exact can_ints xs
  have h2 : PyData.depth (.tuple (xs.map PyData.int)) ≤ 64 := by
    have : PyData.depth (.tuple (xs.map PyData.int)) = PyData.depthAll (xs.map PyData.int) + 1 := by simp [PyData.depth]
    rw [this, depth_ints]; omega
  rw [h1, decide_eq_true h2]
  rfl
theorem eqv_ints : ∀ xs ys : List Int, PyData.eqvAll (xs.map PyData.int) (ys.map PyData.int) = decide (xs = ys)
  | [], [] => rfl
  | [], _ :: _ => rfl
  | _ :: _, [] => rfl
  | x :: xs, y :: ys => by
    show ((x == y) && PyData.eqvAll (xs.map PyData.int) (ys.map PyData.int)) = _
    rw [eqv_ints xs ys]
    by_cases h : x = y <;> by_cases h2 : xs = ys <;> simp [h, h2]
theorem eqD_tup (xs ys : List Int) : eqD (.tup (xs.map D.int)) (.tup (ys.map D.int)) = some (decide (xs = ys)) := by
  refine eqD_of ?_
  unfold eqP
  have e : ∀ zs : List Int, toP (.tup (zs.map D.int)) = some (.tuple (zs.map PyData.int)) := fun zs => by
    show (toPs (zs.map D.int)).map PyData.tuple = _
    rw [toPs_ints]; rfl
  rw [e, e]
  simp only
  rw [shaped_tup, shaped_tup]
  show some (PyData.eqvAll (xs.map PyData.int) (ys.map PyData.int)) = _
  rw [eqv_ints]
theorem shaped_int (x : Int) : SeqAt.shaped (.int x) = true := by
  unfold SeqAt.shaped
  have h : PyData.depth (.int x) = 0 := by simp [PyData.depth]
  rw [h]
  rfl
theorem eqD_int (x y : Int) : eqD (.int x) (.int y) = some (x == y) := by
  refine eqD_of ?_
  unfold eqP
  show (if SeqAt.shaped (.int x) && SeqAt.shaped (.int y) then some (x == y) else none) = _
  rw [shaped_int, shaped_int]
  rfl
theorem inDD_tup (x : Int) (ys : List Int) : inDD (.int x) (.tup (ys.map D.int)) = some (ys.any fun y => y == x) := by
  refine inDD_of ?_
  unfold inD0
  simp only
  have h : (ys.map D.int).all flatD = true := by simp [flatD]
  rw [h]
  show some ((ys.map D.int).any fun z => eqV (toV z) (toV (.int x))) = _
  rw [List.any_map]
  rfl
/-- a place in a list -/
theorem atI_nat {α : Type} (xs : List α) (i : Int) (h0 : 0 ≤ i) (h1 : i < xs.length) : L2.atI xs i = xs[i.toNat]? := by
  unfold L2.atI L2.ixN
  rw [if_pos h0, if_pos h1]
  rfl
theorem imms_ints (xs : List Int) : imms (xs.map D.int) = true := by
  rw [imms_all]; simp [imm]
theorem rng1_nat (n : Nat) (h : (n : Int) < 2 ^ 62) : rng1O [.int n] = some ((List.range n).map fun i => D.int (i : Nat)) := by
  have : inR (n : Int) = true := cb_iff.mpr ⟨by omega, h⟩
  show (if inR (n : Int) then some (rngD 0 (n : Int).toNat) else none) = _
  rw [if_pos this]
  simp [rngD]
/-! ### the pool -/
theorem g_pixM (fa fb : Env → M D) (env : Env) (g : G) : pixM fa fb env g = (match fa env g with | .ok d g' => (match fb env g' with | .ok e g'' => pixF d e g'' | .err e g' => .err e g' | .stuck => .stuck) | .err e g' => .err e g' | .stuck => .stuck) := by
  unfold pixM M.bind
  cases fa env g with
  | ok d g' => simp only; cases fb env g' <;> rfl
  | _ => rfl
theorem g_plenM (fa : Env → M D) (env : Env) (g : G) : plenM fa env g = (match fa env g with | .ok d g' => plenF d g' | .err e g' => .err e g' | .stuck => .stuck) := by
  unfold plenM M.bind
  cases fa env g <;> rfl
theorem pix0 (p : PSt) : pixF .pool (.int 0) (some p) = .ok (.int p.seed) (some p) := rfl
theorem pix1 (p : PSt) : pixF .pool (.int 1) (some p) = .ok (.int p.cnt) (some p) := rfl
theorem pix2 (p : PSt) : pixF .pool (.int 2) (some p) = .ok .cel (some p) := rfl
theorem pixc (s n c : Int) (r : List Int) : pixF .cel (.int 0) (some ⟨s, n, c :: r⟩) = .ok (.int c) (some ⟨s, n, c :: r⟩) := rfl
theorem plenc (p : PSt) : plenF .cel (some p) = .ok (.int p.cells.length) (some p) := rfl
theorem s_pset (m : Bool) (hd : List Nat) (i : Nat) (f : Env → M D) (env : Env) (g : G) : sPset m hd i f env g = (match f (wipeE env hd) g with | .ok d g' => (match after m hd (imm d) env with | some env' => (match asI d, slotD env' i, g' with | some z, some s, some p => if isPool s = true then .ok (.nx env') (some { p with cnt := z }) else .stuck | _, _, _ => .stuck) | none => .stuck) | .err e g' => errS e env g' | .stuck => .stuck) := rfl
theorem s_cset (m : Bool) (hd : List Nat) (i : Nat) (f : Env → M D) (env : Env) (g : G) : sCset m hd i f env g = (match f (wipeE env hd) g with | .ok d g' => (match after m hd (imm d) env with | some env' => (match asI d, slotD env' i, g' with | some z, some s, some p => if isCel s = true ∧ p.cells ≠ [] then .ok (.nx env') (some { p with cells := z :: p.cells.tail }) else .stuck | _, _, _ => .stuck) | none => .stuck) | .err e g' => errS e env g' | .stuck => .stuck) := rfl
theorem small_of {i : Int} (h : -(2 ^ 64) < i) (h2 : i < 2 ^ 64) : small64 i = true := cb_iff.mpr ⟨h, h2⟩
theorem mul_l {i j : Int} (h : small64 i = true) : mulD (.int i) (.int j) = some (.int (i * j)) := by
  show (if small64 i || small64 j then _ else _) = _
  rw [h]; rfl
theorem mul_r {i j : Int} (h : small64 j = true) : mulD (.int i) (.int j) = some (.int (i * j)) := by
  show (if small64 i || small64 j then _ else _) = _
  rw [h, Bool.or_true]; rfl
theorem fdiv_ok {i j : Int} (h : 0 < j) (h2 : j < 2 ^ 128) : fdivD (.int i) (.int j) = some (.int (i / j)) := by
  show (if cb _ then _ else _) = _
  rw [cb_iff.mpr (wide_div (b := 128) h (by omega) (by decide) (by decide))]; rfl
theorem mod_ok {i j : Int} (h : 0 < j) : modD (.int i) (.int j) = some (.int (i % j)) := by
  show (if 0 < j then _ else _) = _
  rw [if_pos h]
def mixV (seed cnt : Int) : Int := (((((seed + 7919 * cnt) * 48271 % 2147483647) * ((seed + 7919 * cnt) * 48271 % 2147483647 / 1009 + 69621)) % 2147483647) * ((((seed + 7919 * cnt) * 48271 % 2147483647) * ((seed + 7919 * cnt) * 48271 % 2147483647 / 1009 + 69621)) % 2147483647 / 2003 + 40692)) % 2147483399
def drawV (p : PSt) (m : Int) : Int := match p.cells with
  | c :: _ => c % m
  | [] => mixV p.seed (p.cnt + 1) / 16 % m
def drawP (p : PSt) (m : Int) : PSt := match p.cells with
  | c :: r => if c / m = 0 then ⟨p.seed, p.cnt + 1, r⟩ else ⟨p.seed, p.cnt + 1, c / m :: r⟩
  | [] => ⟨p.seed, p.cnt + 1, []⟩
theorem drawV_lo (p : PSt) {m : Int} (h : 0 < m) : 0 ≤ drawV p m := by
  unfold drawV
  split <;> exact Int.emod_nonneg _ (by omega)
theorem drawV_hi (p : PSt) {m : Int} (h : 0 < m) : drawV p m < m := by
  unfold drawV
  split <;> exact Int.emod_lt_of_pos _ h
theorem small_mod (x : Int) : small64 (x % 2147483647) = true := small_of (by have := Int.emod_nonneg x (show (2147483647 : Int) ≠ 0 by decide); omega) (by have := Int.emod_lt_of_pos x (show (0 : Int) < 2147483647 by decide); omega)
theorem small_48271 : small64 48271 = true := small_of (by decide) (by decide)
theorem small_7919 : small64 7919 = true := small_of (by decide) (by decide)
theorem cutL_map {α β : Type} (f : α → β) (xs : List α) (lo hi : Option Int) : cutL (xs.map f) lo hi = (cutL xs lo hi).map f := by
  unfold cutL
  simp [List.map_drop, List.map_take]
theorem cutL_len {α : Type} (xs : List α) (lo hi : Option Int) : (cutL xs lo hi).length ≤ xs.length := by
  unfold cutL
  simp
  omega
theorem sumF_map (xs : List Int) : sumF (xs.map D.int) = some (.int xs.sum) := by
  unfold sumF; rw [intsD_map]; rfl
theorem intsOf_map (xs : List Int) : intsOf (xs.map D.int) = some xs := by
  induction xs with
  | nil => rfl
  | cons x r ih =>
    show (match asI (.int x), intsOf (r.map D.int) with | some z, some zs => some (z :: zs) | _, _ => none) = _
    rw [ih]
    rfl
theorem pow_ok {i j : Int} (h : 0 ≤ j ∧ j ≤ 1000000 ∧ i.natAbs < 2 ^ 64) : powD (.int i) (.int j) = some (.int (i ^ j.toNat)) := by
  show (if cb _ then _ else _) = _
  rw [cb_iff.mpr h]; rfl
theorem fits (n : Nat) (h : n ≤ 100000) : n ≤ sizeLine := by rw [sizeLine_eq]; omega
theorem s_app (m : Bool) (hd : List Nat) (i : Nat) (f : Env → M D) (env : Env) (g : G) : sApp m hd i f env g = (match ownL env i with | none => .stuck | some _ => (match f (wipeE env hd) g with | .ok d g' => (match after m hd (imm d) env with | some env' => (match ownL env' i with | some ds => if ds.length < sizeLine then .ok (.nx (env'.set i (some (.lst (ds ++ [d]), true)))) g' else .stuck | none => .stuck) | none => .stuck) | .err e g' => errS e env g' | .stuck => .stuck)) := by
  unfold sApp
  cases ownL env i <;> rfl
theorem sz_ok {α : Type} (c : List α → D) (xs : List α) (h : xs.length ≤ 100000) : Dv.sizeOk c xs = some (c xs) := by
  unfold Dv.sizeOk
  rw [if_pos (fits _ h)]
theorem sz0 {α : Type} (c : List α → D) : Dv.sizeOk c [] = some (c []) := sz_ok c _ (by simp)
theorem sz1 {α : Type} (c : List α → D) (x : α) : Dv.sizeOk c [x] = some (c [x]) := sz_ok c _ (by simp)
theorem sz2 {α : Type} (c : List α → D) (x y : α) : Dv.sizeOk c [x, y] = some (c [x, y]) := sz_ok c _ (by simp)
theorem sz3 {α : Type} (c : List α → D) (x y z : α) : Dv.sizeOk c [x, y, z] = some (c [x, y, z]) := sz_ok c _ (by simp)
theorem sz4 {α : Type} (c : List α → D) (x y z u : α) : Dv.sizeOk c [x, y, z, u] = some (c [x, y, z, u]) := sz_ok c _ (by simp)
end Dv
end
section
set_option maxHeartbeats 0
open PySem PySem.Spec PyProof.Rows L2 Dv
/-! _law_pool : ['_law_script', '_law_seed', '_law_cell'] -/
def Pg.ir__law_pool : SIs :=
 (.cons (.set [] (.one 1) (.bin .Add (.bin .Add (.bin .Mod (.bi .int (.cons (.bi .sum (.cons (.slc (.var 0) .nop (.cst (.int 1))) .nil)) .nil)) (.cst (.int 1000003))) (.bi .len (.cons (.var 0) .nil))) (.cst (.int 1))))
 (.cons (.for [] (.one 2) (.seq (.slc (.var 0) .nop (.cst (.int 63))))
 (.cons (.set [] (.one 1) (.bin .Mod (.bi .int (.cons (.bin .Add (.bin .Add (.bin .Mult (.var 1) (.cst (.int 48271))) (.bin .Mod (.bi .int (.cons (.var 2) .nil)) (.cst (.int 2147483629)))) (.cst (.int 11))) .nil)) (.cst (.int 2147483647))))
 .nil))
 (.cons (.retP (.var 1) (.cst (.int 0)) (.comp [("_law_cell", 2)] (.one 2) (.seq (.slc (.var 0) .nop (.cst (.int 63)))) (.cmp .GtE (.bi .abs (.cons (.var 2) .nil)) (.bin .Pow (.cst (.int 10)) (.cst (.int 18)))) (.bi .abs (.cons (.var 2) .nil))))
 .nil)))
def Pg.s__law_pool : List D → M D := runD 2 (evSs false Pg.ir__law_pool)
/-! _law_draw : ['_law_pool_here', '_law_many', '_law_cells', '_law_mixed', '_law_digit'] -/
def Pg.ir__law_draw : SIs :=
 (.cons (.pset [] 0 (.bin .Add (.pidx (.var 0) (.cst (.int 1))) (.cst (.int 1))))
 (.cons (.set [] (.one 2) (.pidx (.var 0) (.cst (.int 2))))
 (.cons (.ifs (.cmp .Gt (.plen (.var 2)) (.cst (.int 0)))
 (.cons (.set [] (.one 4) (.bin .Mod (.bi .int (.cons (.pidx (.var 2) (.cst (.int 0))) .nil)) (.var 1)))
 (.cons (.cset [] 2 (.bin .FloorDiv (.bi .int (.cons (.pidx (.var 2) (.cst (.int 0))) .nil)) (.var 1)))
 (.cons (.ifs (.cmp .Eq (.pidx (.var 2) (.cst (.int 0))) (.cst (.int 0)))
 (.cons (.cpop 2)
 .nil)
 .nil)
 (.cons (.ret [] (.var 4))
 .nil))))
 .nil)
 (.cons (.set [] (.one 3) (.bin .Mod (.bi .int (.cons (.bin .Mult (.bin .Add (.pidx (.var 0) (.cst (.int 0))) (.bin .Mult (.cst (.int 7919)) (.pidx (.var 0) (.cst (.int 1))))) (.cst (.int 48271))) .nil)) (.cst (.int 2147483647))))
 (.cons (.set [] (.one 3) (.bin .Mod (.bi .int (.cons (.bin .Mult (.var 3) (.bin .Add (.bin .FloorDiv (.var 3) (.cst (.int 1009))) (.cst (.int 69621)))) .nil)) (.cst (.int 2147483647))))
 (.cons (.set [] (.one 3) (.bin .Mod (.bi .int (.cons (.bin .Mult (.var 3) (.bin .Add (.bin .FloorDiv (.var 3) (.cst (.int 2003))) (.cst (.int 40692)))) .nil)) (.cst (.int 2147483399))))
 (.cons (.ret [] (.bin .Mod (.bi .int (.cons (.bin .FloorDiv (.var 3) (.cst (.int 16))) .nil)) (.var 1)))
 .nil)))))))
def Pg.s__law_draw : List D → M D := runD 3 (evSs false Pg.ir__law_draw)
/-! _law_windows : ['_law_pool_here', '_law_many', '_law_top', '_law_kind', '_law_found', '_law_total', '_law_k', '_law_one', '_law_other'] -/
def Pg.ir__law_windows : SIs :=
 (.cons (.set [4] (.one 3) (.call "_law_draw" 2 Pg.s__law_draw (.cons (.var 0) (.cons (.cst (.int 4)) .nil))))
 (.cons (.own [4] 4 (.lst .nil))
 (.cons (.set [4] (.one 5) (.bin .Add (.var 2) (.call "_law_draw" 2 Pg.s__law_draw (.cons (.var 0) (.cons (.bin .Add (.var 2) (.cst (.int 1))) .nil)))))
 (.cons (.for [4] (.one 6) (.rng1 (.var 1))
 (.cons (.set [4] (.one 7) (.call "_law_draw" 2 Pg.s__law_draw (.cons (.var 0) (.cons (.bin .Add (.var 2) (.cst (.int 1))) .nil))))
 (.cons (.set [4] (.one 8) (.call "_law_draw" 2 Pg.s__law_draw (.cons (.var 0) (.cons (.bin .Add (.var 2) (.cst (.int 1))) .nil))))
 (.cons (.ifs (.and (.cmp .Eq (.var 3) (.cst (.int 0))) (.last (.cmp .Gt (.call "_law_draw" 2 Pg.s__law_draw (.cons (.var 0) (.cons (.cst (.int 4)) .nil))) (.cst (.int 0)))))
 (.cons (.set [4] (.one 7) (.call "_law_draw" 2 Pg.s__law_draw (.cons (.var 0) (.cons (.bin .Add (.bin .FloorDiv (.var 5) (.cst (.int 2))) (.cst (.int 1))) .nil))))
 (.cons (.set [4] (.one 8) (.bin .Sub (.var 5) (.var 7)))
 .nil))
 .nil)
 (.cons (.ifs (.cmp .Eq (.var 3) (.cst (.int 1)))
 (.cons (.set [4] (.one 7) (.bin .Add (.var 6) (.call "_law_draw" 2 Pg.s__law_draw (.cons (.var 0) (.cons (.cst (.int 2)) .nil)))))
 (.cons (.set [4] (.one 8) (.bin .Add (.bin .Add (.var 7) (.cst (.int 2))) (.call "_law_draw" 2 Pg.s__law_draw (.cons (.var 0) (.cons (.cst (.int 2)) .nil)))))
 .nil))
 .nil)
 (.cons (.app [4] 4 (.tup (.cons (.bi .min2 (.cons (.var 7) (.cons (.var 8) .nil))) (.cons (.bi .max2 (.cons (.var 7) (.cons (.var 8) .nil))) .nil))))
 .nil))))))
 (.cons (.ret [] (.bi .tuple (.cons (.var 4) .nil)))
 .nil)))))
def Pg.s__law_windows : List D → M D := runD 6 (evSs false Pg.ir__law_windows)
/-! is_pair : ['thing'] -/
def Pg.ir_is_pair : SIs :=
 (.cons (.ret [] (.and (.isi (.cons (.var 0) (.cons (.tyn "tuple") .nil))) (.last (.cmp .Eq (.bi .len (.cons (.var 0) .nil)) (.cst (.int 2))))))
 .nil)
def Pg.s_is_pair : List D → M D := runD 0 (evSs false Pg.ir_is_pair)
/-! is_integer : ['thing'] -/
def Pg.ir_is_integer : SIs :=
 (.cons (.ret [] (.and (.isi (.cons (.var 0) (.cons (.tyn "int") .nil))) (.last (.not (.isi (.cons (.var 0) (.cons (.tyn "bool") .nil)))))))
 .nil)
def Pg.s_is_integer : List D → M D := runD 0 (evSs false Pg.ir_is_integer)
/-! is_within : ['thing', 'least', 'most'] -/
def Pg.ir_is_within : SIs :=
 (.cons (.ret [] (.and (.call "is_integer" 1 Pg.s_is_integer (.cons (.var 0) .nil)) (.last (.chain .LtE .LtE (.var 1) (.var 0) (.var 2)))))
 .nil)
def Pg.s_is_within : List D → M D := runD 0 (evSs false Pg.ir_is_within)
/-! is_window : ['thing'] -/
def Pg.ir_is_window : SIs :=
 (.cons (.ret [] (.and (.call "is_pair" 1 Pg.s_is_pair (.cons (.var 0) .nil)) (.and (.call "is_within" 3 Pg.s_is_within (.cons (.idx (.var 0) (.cst (.int 0))) (.cons (.cst (.int 0)) (.cons (.glb "MOST_HOUR" 1000000) .nil)))) (.last (.call "is_within" 3 Pg.s_is_within (.cons (.idx (.var 0) (.cst (.int 1))) (.cons (.idx (.var 0) (.cst (.int 0))) (.cons (.glb "MOST_HOUR" 1000000) .nil))))))))
 .nil)
def Pg.s_is_window : List D → M D := runD 0 (evSs false Pg.ir_is_window)
/-! Book.__init__ : ['self', 'windows', 'window'] -/
def Pg.ir_Book_init : SIs :=
 (.cons (.ifs (.or (.not (.isi (.cons (.var 1) (.cons (.tyn "tuple") .nil)))) (.last (.not (.chain .LtE .LtE (.cst (.int 1)) (.bi .len (.cons (.var 1) .nil)) (.glb "MOST_WORKS" 40)))))
 (.cons (.raise "BadBook" 14)
 .nil)
 .nil)
 (.cons (.ifs (.not (.bi .all (.cons (.comp [("window", 2)] (.one 2) (.seq (.var 1)) .yes (.call "is_window" 1 Pg.s_is_window (.cons (.var 2) .nil))) .nil)))
 (.cons (.raise "BadBook" 14)
 .nil)
 .nil)
 (.cons (.fset [0] 0 [0] "windows" (.var 1))
 (.cons (.fset [0] 0 [0] "kept_windows" (.var 1))
 .nil))))
def Pg.s_Book_init : D → List D → G → RM := runX 1 (evSs true Pg.ir_Book_init)
/-! _law_row : ['_law_pool_here', '_law_works', '_law_left', '_law_k'] -/
def Pg.ir__law_row : SIs :=
 (.cons (.own [2] 2 (.bi .list (.cons (.var 1) .nil)))
 (.cons (.row 2 0 3 [("_law_k", 3)] "_law_draw" Pg.s__law_draw (.rng1 (.bi .len (.cons (.var 1) .nil))))
 .nil))
def Pg.s__law_row : List D → M D := runD 2 (evSs false Pg.ir__law_row)
/-! _law_some : ['_law_pool_here', '_law_many', '_law_of', '_law_work'] -/
def Pg.ir__law_some : SIs :=
 (.cons (.set [] (.one 2) (.idx (.lst (.cons (.cst (.int 1)) (.cons (.cst (.int 2)) (.cons (.cst (.int 4)) .nil)))) (.call "_law_draw" 2 Pg.s__law_draw (.cons (.var 0) (.cons (.cst (.int 3)) .nil)))))
 (.cons (.ret [] (.bi .tuple (.cons (.comp [("_law_work", 3)] (.one 3) (.rng1 (.var 1)) (.cmp .Gt (.call "_law_draw" 2 Pg.s__law_draw (.cons (.var 0) (.cons (.bin .Add (.var 2) (.cst (.int 1))) .nil))) (.cst (.int 0))) (.var 3)) .nil)))
 .nil))
def Pg.s__law_some : List D → M D := runD 2 (evSs false Pg.ir__law_some)
/-! _law_lot : ['_law_pool_here', '_law_windows_here', '_law_works', '_law_lot_here', '_law_work', '_law_length', '_law_first', '_law_last'] -/
def Pg.ir__law_lot : SIs :=
 (.cons (.own [3] 3 (.lst .nil))
 (.cons (.for [3] (.one 4) (.rng1 (.bi .len (.cons (.var 1) .nil)))
 (.cons (.set [3] (.many [6, 7]) (.idx (.var 1) (.var 4)))
 (.cons (.set [3] (.one 5) (.call "_law_draw" 2 Pg.s__law_draw (.cons (.var 0) (.cons (.bin .Add (.bin .Add (.bin .Sub (.var 7) (.var 6)) (.cst (.int 1))) (.bi .int (.cons (.cmp .Eq (.call "_law_draw" 2 Pg.s__law_draw (.cons (.var 0) (.cons (.cst (.int 6)) .nil))) (.cst (.int 0))) .nil))) .nil))))
 (.cons (.ifs (.cmp .Gt (.call "_law_draw" 2 Pg.s__law_draw (.cons (.var 0) (.cons (.cst (.int 3)) .nil))) (.cst (.int 0)))
 (.cons (.set [3] (.one 5) (.bin .FloorDiv (.var 5) (.cst (.int 2))))
 .nil)
 .nil)
 (.cons (.app [3] 3 (.ite (.cmp .In (.var 4) (.var 2)) (.var 5) (.cst .non)))
 .nil)))))
 (.cons (.ret [] (.bi .tuple (.cons (.var 3) .nil)))
 .nil)))
def Pg.s__law_lot : List D → M D := runD 5 (evSs false Pg.ir__law_lot)
/-! many_of : ['book'] -/
def Pg.ir_many_of : SIs :=
 (.cons (.ret [] (.bi .len (.cons (.fld [0] (.var 0) "kept_windows") .nil)))
 .nil)
def Pg.s_many_of : List D → M D := runD 0 (evSs false Pg.ir_many_of)
/-! is_work : ['book', 'thing'] -/
def Pg.ir_is_work : SIs :=
 (.cons (.ret [] (.call "is_within" 3 Pg.s_is_within (.cons (.var 1) (.cons (.cst (.int 0)) (.cons (.bin .Sub (.call "many_of" 1 Pg.s_many_of (.cons (.var 0) .nil)) (.cst (.int 1))) .nil)))))
 .nil)
def Pg.s_is_work : List D → M D := runD 0 (evSs false Pg.ir_is_work)
/-! is_row : ['book', 'thing', 'work'] -/
def Pg.ir_is_row : SIs :=
 (.cons (.ifs (.or (.not (.isi (.cons (.var 1) (.cons (.tyn "tuple") .nil)))) (.last (.not (.bi .all (.cons (.comp [("work", 2)] (.one 2) (.seq (.var 1)) .yes (.call "is_work" 2 Pg.s_is_work (.cons (.var 0) (.cons (.var 2) .nil)))) .nil)))))
 (.cons (.ret [] (.cst (.bl false)))
 .nil)
 .nil)
 (.cons (.ret [] (.cmp .Eq (.lset (.bi .list (.cons (.var 1) .nil))) (.bi .len (.cons (.var 1) .nil))))
 .nil))
def Pg.s_is_row : List D → M D := runD 1 (evSs false Pg.ir_is_row)
/-! check_row : ['book', 'thing'] -/
def Pg.ir_check_row : SIs :=
 (.cons (.ifs (.not (.call "is_row" 2 Pg.s_is_row (.cons (.var 0) (.cons (.var 1) .nil))))
 (.cons (.raise "NoRow" 19)
 .nil)
 .nil)
 .nil)
def Pg.s_check_row : List D → M D := runD 0 (evSs false Pg.ir_check_row)
/-! is_from : ['thing', 'least'] -/
def Pg.ir_is_from : SIs :=
 (.cons (.ret [] (.and (.call "is_integer" 1 Pg.s_is_integer (.cons (.var 0) .nil)) (.last (.cmp .GtE (.var 0) (.var 1)))))
 .nil)
def Pg.s_is_from : List D → M D := runD 0 (evSs false Pg.ir_is_from)
/-! is_lot : ['book', 'thing', 'item'] -/
def Pg.ir_is_lot : SIs :=
 (.cons (.ifs (.or (.not (.isi (.cons (.var 1) (.cons (.tyn "tuple") .nil)))) (.last (.cmp .NotEq (.bi .len (.cons (.var 1) .nil)) (.call "many_of" 1 Pg.s_many_of (.cons (.var 0) .nil)))))
 (.cons (.ret [] (.cst (.bl false)))
 .nil)
 .nil)
 (.cons (.ret [] (.bi .all (.cons (.comp [("item", 2)] (.one 2) (.seq (.var 1)) .yes (.or (.cmp .Is (.var 2) (.cst .non)) (.last (.call "is_from" 2 Pg.s_is_from (.cons (.var 2) (.cons (.cst (.int 0)) .nil)))))) .nil)))
 .nil))
def Pg.s_is_lot : List D → M D := runD 1 (evSs false Pg.ir_is_lot)
/-! check_lot : ['book', 'thing'] -/
def Pg.ir_check_lot : SIs :=
 (.cons (.ifs (.not (.call "is_lot" 2 Pg.s_is_lot (.cons (.var 0) (.cons (.var 1) .nil))))
 (.cons (.raise "NoLot" 16)
 .nil)
 .nil)
 .nil)
def Pg.s_check_lot : List D → M D := runD 0 (evSs false Pg.ir_check_lot)
/-! check_run : ['book', 'row', 'lot', 'work', 'item'] -/
def Pg.ir_check_run : SIs :=
 (.cons (.drop [] (.call "check_row" 2 Pg.s_check_row (.cons (.var 0) (.cons (.var 1) .nil))))
 (.cons (.drop [] (.call "check_lot" 2 Pg.s_check_lot (.cons (.var 0) (.cons (.var 2) .nil))))
 (.cons (.ifs (.bi .any (.cons (.comp [("work", 3), ("item", 4)] (.many [3, 4]) (.enum (.var 2)) .yes (.and (.cmp .IsNot (.var 4) (.cst .non)) (.last (.cmp .NotIn (.var 3) (.var 1))))) .nil))
 (.cons (.raise "NoLot" 16)
 .nil)
 .nil)
 .nil)))
def Pg.s_check_run : List D → M D := runD 2 (evSs false Pg.ir_check_run)
/-! first_of : ['book', 'work'] -/
def Pg.ir_first_of : SIs :=
 (.cons (.ret [] (.idx (.idx (.fld [0] (.var 0) "kept_windows") (.var 1)) (.cst (.int 0))))
 .nil)
def Pg.s_first_of : List D → M D := runD 0 (evSs false Pg.ir_first_of)
/-! ran : ['book', 'row', 'lot', 'found', 'clock', 'work', 'begin'] -/
def Pg.ir_ran : SIs :=
 (.cons (.own [3] 3 (.lst .nil))
 (.cons (.set [3] (.one 4) (.cst (.int 0)))
 (.cons (.for [3] (.one 5) (.seq (.var 1))
 (.cons (.ifs (.cmp .IsNot (.idx (.var 2) (.var 5)) (.cst .non))
 (.cons (.set [3] (.one 6) (.bi .max2 (.cons (.var 4) (.cons (.call "first_of" 2 Pg.s_first_of (.cons (.var 0) (.cons (.var 5) .nil))) .nil))))
 (.cons (.set [3] (.one 4) (.bin .Add (.var 6) (.idx (.var 2) (.var 5))))
 (.cons (.app [3] 3 (.tup (.cons (.var 5) (.cons (.var 6) (.cons (.var 4) .nil)))))
 .nil)))
 .nil)
 .nil))
 (.cons (.ret [] (.var 3))
 .nil))))
def Pg.s_ran : List D → M D := runD 4 (evSs false Pg.ir_ran)
/-! run : ['book', 'row', 'lot'] -/
def Pg.ir_run : SIs :=
 (.cons (.drop [] (.call "check_run" 3 Pg.s_check_run (.cons (.var 0) (.cons (.var 1) (.cons (.var 2) .nil)))))
 (.cons (.ret [] (.bi .tuple (.cons (.call "ran" 3 Pg.s_ran (.cons (.var 0) (.cons (.var 1) (.cons (.var 2) .nil)))) .nil)))
 .nil))
def Pg.s_run : List D → M D := runD 0 (evSs false Pg.ir_run)
/-! _law_run : ['_law_windows_here', '_law_row_here', '_law_lot_here', '_law_found', '_law_clock', '_law_work'] -/
def Pg.ir__law_run : SIs :=
 (.cons (.own [3] 3 (.lst .nil))
 (.cons (.set [3] (.one 4) (.cst (.int 0)))
 (.cons (.for [3] (.one 5) (.seq (.var 1))
 (.cons (.ifs (.cmp .IsNot (.idx (.var 2) (.var 5)) (.cst .non))
 (.cons (.whl 1000000 (.cmp .Lt (.var 4) (.idx (.idx (.var 0) (.var 5)) (.cst (.int 0))))
 (.cons (.set [3] (.one 4) (.idx (.idx (.var 0) (.var 5)) (.cst (.int 0))))
 .nil))
 (.cons (.app [3] 3 (.tup (.cons (.var 5) (.cons (.var 4) (.cons (.bin .Add (.var 4) (.idx (.var 2) (.var 5))) .nil)))))
 (.cons (.set [3] (.one 4) (.bin .Add (.var 4) (.idx (.var 2) (.var 5))))
 .nil)))
 .nil)
 .nil))
 (.cons (.ret [] (.var 3))
 .nil))))
def Pg.s__law_run : List D → M D := runD 3 (evSs false Pg.ir__law_run)
/-! _law_lateness : ['_law_windows_here', '_law_row_here', '_law_lot_here', '_law_hours', '_law_work', '_law_begin', '_law_end'] -/
def Pg.ir__law_lateness : SIs :=
 (.cons (.own [3] 3 (.comp [("_law_work", 4), ("_law_begin", 5), ("_law_end", 6)] (.many [4, 5, 6]) (.seq (.call "_law_run" 3 Pg.s__law_run (.cons (.var 0) (.cons (.var 1) (.cons (.var 2) .nil))))) .yes (.bin .Sub (.var 6) (.idx (.idx (.var 0) (.var 4)) (.cst (.int 1))))))
 (.cons (.ret [] (.ite (.cmp .Gt (.bi .len (.cons (.var 3) .nil)) (.cst (.int 0))) (.bi .max1 (.cons (.var 3) .nil)) (.cst .non)))
 .nil))
def Pg.s__law_lateness : List D → M D := runD 4 (evSs false Pg.ir__law_lateness)
/-! last_of : ['book', 'work'] -/
def Pg.ir_last_of : SIs :=
 (.cons (.ret [] (.idx (.idx (.fld [0] (.var 0) "kept_windows") (.var 1)) (.cst (.int 1))))
 .nil)
def Pg.s_last_of : List D → M D := runD 0 (evSs false Pg.ir_last_of)
/-! late_of : ['book', 'row', 'lot', 'hours', 'work', 'begin', 'end'] -/
def Pg.ir_late_of : SIs :=
 (.cons (.own [3] 3 (.comp [("work", 4), ("begin", 5), ("end", 6)] (.many [4, 5, 6]) (.seq (.call "ran" 3 Pg.s_ran (.cons (.var 0) (.cons (.var 1) (.cons (.var 2) .nil))))) .yes (.bin .Sub (.var 6) (.call "last_of" 2 Pg.s_last_of (.cons (.var 0) (.cons (.var 4) .nil))))))
 (.cons (.ret [] (.ite (.cmp .Gt (.bi .len (.cons (.var 3) .nil)) (.cst (.int 0))) (.bi .max1 (.cons (.var 3) .nil)) (.cst .non)))
 .nil))
def Pg.s_late_of : List D → M D := runD 4 (evSs false Pg.ir_late_of)
/-! lateness : ['book', 'row', 'lot'] -/
def Pg.ir_lateness : SIs :=
 (.cons (.drop [] (.call "check_run" 3 Pg.s_check_run (.cons (.var 0) (.cons (.var 1) (.cons (.var 2) .nil)))))
 (.cons (.ret [] (.call "late_of" 3 Pg.s_late_of (.cons (.var 0) (.cons (.var 1) (.cons (.var 2) .nil)))))
 .nil))
def Pg.s_lateness : List D → M D := runD 0 (evSs false Pg.ir_lateness)
/-! _law_flag : ['_law_told', '_law_due'] -/
def Pg.ir__law_flag : SIs :=
 (.cons (.ret [] (.and (.isi (.cons (.var 0) (.cons (.tyn "bool") .nil))) (.last (.cmp .Eq (.var 0) (.var 1)))))
 .nil)
def Pg.s__law_flag : List D → M D := runD 0 (evSs false Pg.ir__law_flag)
/-! serves_lot : ['book', 'row', 'lot', 'work', 'begin', 'end'] -/
def Pg.ir_serves_lot : SIs :=
 (.cons (.ret [] (.bi .all (.cons (.comp [("work", 3), ("begin", 4), ("end", 5)] (.many [3, 4, 5]) (.seq (.call "ran" 3 Pg.s_ran (.cons (.var 0) (.cons (.var 1) (.cons (.var 2) .nil))))) .yes (.cmp .LtE (.var 5) (.call "last_of" 2 Pg.s_last_of (.cons (.var 0) (.cons (.var 3) .nil))))) .nil)))
 .nil)
def Pg.s_serves_lot : List D → M D := runD 3 (evSs false Pg.ir_serves_lot)
/-! serves : ['book', 'row', 'lot'] -/
def Pg.ir_serves : SIs :=
 (.cons (.drop [] (.call "check_run" 3 Pg.s_check_run (.cons (.var 0) (.cons (.var 1) (.cons (.var 2) .nil)))))
 (.cons (.ret [] (.call "serves_lot" 3 Pg.s_serves_lot (.cons (.var 0) (.cons (.var 1) (.cons (.var 2) .nil)))))
 .nil))
def Pg.s_serves : List D → M D := runD 0 (evSs false Pg.ir_serves)
/-! broken_stretches : ['book', 'row', 'lot', 'present', 'found', 'at', 'one', 'load', 'other', 'work'] -/
def Pg.ir_broken_stretches : SIs :=
 (.cons (.own [3, 4] 3 (.comp [("work", 9)] (.one 9) (.seq (.var 1)) (.cmp .IsNot (.idx (.var 2) (.var 9)) (.cst .non)) (.var 9)))
 (.cons (.own [3, 4] 4 (.lst .nil))
 (.cons (.for [4] (.many [5, 6]) (.enum (.var 3))
 (.cons (.set [3, 4] (.one 7) (.cst (.int 0)))
 (.cons (.for [4] (.one 8) (.seq (.slc (.var 3) (.var 5) .nop))
 (.cons (.set [3, 4] (.one 7) (.bin .Add (.var 7) (.idx (.var 2) (.var 8))))
 (.cons (.ifs (.cmp .Gt (.bin .Add (.call "first_of" 2 Pg.s_first_of (.cons (.var 0) (.cons (.var 6) .nil))) (.var 7)) (.call "last_of" 2 Pg.s_last_of (.cons (.var 0) (.cons (.var 8) .nil))))
 (.cons (.app [3, 4] 4 (.tup (.cons (.var 6) (.cons (.var 8) .nil))))
 .nil)
 .nil)
 .nil)))
 .nil)))
 (.cons (.ret [3] (.bi .sorted (.cons (.var 4) .nil)))
 .nil))))
def Pg.s_broken_stretches : List D → M D := runD 7 (evSs false Pg.ir_broken_stretches)
/-! broken : ['book', 'row', 'lot'] -/
def Pg.ir_broken : SIs :=
 (.cons (.drop [] (.call "check_run" 3 Pg.s_check_run (.cons (.var 0) (.cons (.var 1) (.cons (.var 2) .nil)))))
 (.cons (.ret [] (.call "broken_stretches" 3 Pg.s_broken_stretches (.cons (.var 0) (.cons (.var 1) (.cons (.var 2) .nil)))))
 .nil))
def Pg.s_broken : List D → M D := runD 0 (evSs false Pg.ir_broken)
end
section
set_option maxHeartbeats 1000000
/-! Pm1: what the shared defs tell: the pool, draws, windows, books. -/
namespace Pm
open PySem Dv Pg
theorem is_integer_int (i : Int) (g : G) : s_is_integer [.int i] g = .ok (.bl true) g := rfl
theorem is_within_int (i a b : Int) (g : G) : s_is_within [.int i, .int a, .int b] g = .ok (.bl (decide (a ≤ i) && decide (i ≤ b))) g := by
  by_cases h : a ≤ i <;>
  simp [s_is_within, ir_is_within, runD, EI, ES, EV, EG, envOf, wipeE, endM, is_integer_int, cmpD, cmpO, intCmp, tru, imm, after, h]
/-- a thing that is no int -/
def noInt (d : D) : Prop := ∀ g, s_is_integer [d] g = .ok (.bl false) g
theorem is_within_no (d : D) (h : noInt d) (a b : Int) (g : G) : s_is_within [d, .int a, .int b] g = .ok (.bl false) g := by
  simp [s_is_within, ir_is_within, runD, EI, ES, EV, EG, envOf, wipeE, endM, h g, cmpD, cmpO, intCmp, tru, imm, after]
theorem is_pair_tup (x y : D) (g : G) : s_is_pair [.tup [x, y]] g = .ok (.bl true) g := rfl
def winD (p : Int × Int) : D := .tup [.int p.1, .int p.2]
theorem at20 (x y : D) : L2.atI [x, y] 0 = some x := rfl
theorem at21 (x y : D) : L2.atI [x, y] 1 = some y := rfl
def winOk (p : Int × Int) : Prop := 0 ≤ p.1 ∧ p.1 ≤ p.2 ∧ p.2 ≤ 1000000
theorem is_window_win (p : Int × Int) (h : winOk p) (g : G) : s_is_window [winD p] g = .ok (.bl true) g := by
  obtain ⟨h1, h2, h3⟩ := h
  have h4 : p.1 ≤ 1000000 := by omega
  simp [s_is_window, ir_is_window, winD, runD, EI, ES, EV, EG, envOf, wipeE, endM, is_pair_tup, is_within_int, cmpD, cmpO, intCmp, tru, imm, after, h1, h2, h3, h4, idxO, at20, at21]
abbrev Ws := List (Int × Int)
def winsD (ws : Ws) : D := .tup (ws.map winD)
def bookD (ws : Ws) : D := .obj 0 [("windows", winsD ws), ("kept_windows", winsD ws)]
theorem imm_winD (p : Int × Int) : imm (winD p) = true := rfl
theorem imm_winsD (ws : Ws) : imm (winsD ws) = true := by
  show imms (ws.map winD) = true
  rw [imms_all]; simp [imm_winD]
theorem len_line (n : Nat) (h : n ≤ 40) : n ≤ sizeLine := by rw [sizeLine_eq]; omega
theorem all_win (ws : Ws) (hw : ∀ p ∈ ws, winOk p) (x1 x2 x3 : Option (D × Bool)) (g : G) (hl : ws.length ≤ 40) :
    compM [2] (.one 2) (seqM (getM 1)) yesT (callM 1 s_is_window (consM (getM 2) nilM)) [x1, some (winsD ws, false), x3] g = .ok (.lst (ws.map fun _ => .bl true)) g := by
  rw [g_compM]
  have : seqM (getM 1) [x1, some (winsD ws, false), x3] g = .ok (ws.map winD) g := by simp [EG, winsD, seqO]
  rw [this]
  simp only [List.length_map]
  rw [if_pos (len_line _ hl), compGo_all _ winD (fun _ => .bl true) g ws fun p hp => ?_]
  rw [g_step1]
  simp [EG, wipeE, is_window_win p (hw p hp)]
theorem Book_init_ok (ws : Ws) (h1 : 1 ≤ ws.length) (h2 : ws.length ≤ 40) (hw : ∀ p ∈ ws, winOk p) (g : G) : s_Book_init (.obj 0 []) [winsD ws] g = .ok .non (bookD ws) g := by
  have h3 : (1 : Int) ≤ (ws.length : Int) := by omega
  have h4 : (ws.length : Int) ≤ 40 := by omega
  have hall : allF (ws.map fun _ => D.bl true) = some (.bl true) := by
    unfold allF
    rw [boolsD_map]
    simp
  have hlen : lenF (winsD ws) = some (.int ws.length) := by unfold winsD lenF; simp
  have hisi : isiF [winsD ws, .con (.ty "tuple")] = some (.bl true) := rfl
  simp [s_Book_init, ir_Book_init, runX, envX, EI, ES, EV, EG, envOf, wipeE, endX, all_win ws hw _ none _ g h2, hall, hlen, hisi, cmpD, cmpO, intCmp, tru, imm, after, h3, h4, biO, one1, onL, tru, ownO, putD, imm_winsD, self0, bookD]
  decide


theorem kept (ws : Ws) : List.lookup ("kept_windows" : Str) [(("windows" : Str), winsD ws), (("kept_windows" : Str), winsD ws)] = some (winsD ws) := by
  have : (("kept_windows" : Str) == ("windows" : Str)) = false := by decide
  rw [List.lookup_cons, this, List.lookup_cons]
  simp
theorem fld_kept (ws : Ws) : fldO [0] "kept_windows" (bookD ws) = some (winsD ws) := by
  show (if 0 ∈ [0] then _ else none) = _
  rw [if_pos (by decide)]
  exact kept ws
theorem len_wins (ws : Ws) : lenF (winsD ws) = some (.int ws.length) := by unfold winsD lenF; simp
theorem many_of_ok (ws : Ws) (g : G) : s_many_of [bookD ws] g = .ok (.int ws.length) g := by
  simp [s_many_of, ir_many_of, runD, EI, ES, EV, EG, envOf, wipeE, endM, imm, after, biO, one1, fld_kept, len_wins]
theorem idx_wins (ws : Ws) (i : Nat) (h : i < ws.length) : idxO (winsD ws) (.int i) = some (winD ws[i]) := by
  show L2.atI (ws.map winD) (i : Int) = _
  rw [atI_nat _ _ (by omega) (by simpa using h)]
  simp [h]
theorem first_of_ok (ws : Ws) (i : Nat) (h : i < ws.length) (g : G) : s_first_of [bookD ws, .int i] g = .ok (.int ws[i].1) g := by
  simp [s_first_of, ir_first_of, runD, EI, ES, EV, EG, envOf, wipeE, endM, imm, after, fld_kept, idx_wins ws i h]
  simp [winD, idxO, at20, imm]
theorem last_of_ok (ws : Ws) (i : Nat) (h : i < ws.length) (g : G) : s_last_of [bookD ws, .int i] g = .ok (.int ws[i].2) g := by
  simp [s_last_of, ir_last_of, runD, EI, ES, EV, EG, envOf, wipeE, endM, imm, after, fld_kept, idx_wins ws i h]
  simp [winD, idxO, at21, imm]
theorem is_work_int (ws : Ws) (z : Int) (g : G) : s_is_work [bookD ws, .int z] g = .ok (.bl (decide (0 ≤ z) && decide (z ≤ (ws.length : Int) - 1))) g := by
  simp [s_is_work, ir_is_work, runD, EI, ES, EV, EG, envOf, wipeE, endM, imm, after, many_of_ok, is_within_int, binO, subD]
theorem is_work_no (ws : Ws) (d : D) (h : noInt d) (g : G) : s_is_work [bookD ws, d] g = .ok (.bl false) g := by
  simp [s_is_work, ir_is_work, runD, EI, ES, EV, EG, envOf, wipeE, endM, imm, after, many_of_ok, is_within_no d h, binO, subD]
def natD (k : Nat) : D := .int (k : Nat)
theorem draw_ok (p : PSt) (m : Int) (h0 : 0 < m) (h1 : m < 2 ^ 128) : s__law_draw [.pool, .int m] (some p) = .ok (.int (drawV p m)) (some (drawP p m)) := by
  obtain ⟨seed, cnt, cells⟩ := p
  cases cells with
  | nil =>
    simp [s__law_draw, ir__law_draw, runD, EI, ES, EV, EG, envOf, wipeE, endM, imm, after, g_pixM, g_plenM, s_pset, pix0, pix1, pix2, plenc, binO, addD, asI, slotD, isPool, setTg, frzE, cmpO, cmpD, intCmp, tru, biO, one1, intF, mul_r small_48271, mul_l small_7919, mod_ok, fdiv_ok, mul_l (small_mod _), h0, drawV, drawP, mixV]
  | cons c r =>
    by_cases hc : c / m = 0 <;>
    simp [s__law_draw, ir__law_draw, runD, EI, ES, EV, EG, envOf, wipeE, endM, imm, after, g_pixM, g_plenM, s_pset, s_cset, sCpop, pix0, pix1, pix2, pixc, plenc, binO, addD, asI, slotD, isPool, isCel, setTg, frzE, cmpO, cmpD, intCmp, eqD_int, tru, biO, one1, intF, mod_ok, fdiv_ok h0 h1, h0, drawV, drawP, hc]
def absI (x : Int) : Int := if x < 0 then -x else x
theorem pool_comp (ns : List Int) (hn : ns.length ≤ 63) (x2 x3 : Option (D × Bool)) (g : G) :
    compM [2] (.one 2) (seqM (slcM (getM 0) noP (someP fun _ => M.ret (.int 63)))) (truM (bind2 (cmpO CmpOp.GtE) (thenM (consM (getM 2) nilM) (biO BI.abs)) (bind2 (binO Operator.Pow) (fun _ => M.ret (D.int 10)) fun _ => M.ret (D.int 18)))) (thenM (consM (getM 2) nilM) (biO .abs)) [some (.scr ns, false), x2, x3] g =
      .ok (.lst (((cutL ns none (some 63)).filter fun x => decide ((10 : Int) ^ 18 ≤ absI x)).map fun x => .int (absI x))) g := by
  rw [g_compM]
  have h1 : seqM (slcM (getM 0) noP (someP fun _ => M.ret (.int 63))) [some (.scr ns, false), x2, x3] g = .ok ((cutL ns none (some 63)).map D.int) g := by
    simp [EG, slcO, asI, seqO, cutL_map]
  rw [h1]
  simp only
  rw [if_pos (fits _ (by have := cutL_len ns none (some 63); simp; omega)), compGo_map _ D.int (fun x => decide ((10 : Int) ^ 18 ≤ absI x)) (fun x => .int (absI x)) g _ fun x _ => ?_]
  rw [g_step1]
  have hp : powD (.int 10) (.int 18) = some (.int (10 ^ 18)) := pow_ok ⟨by decide, by decide, by decide⟩
  have ha : absF (.int x) = some (.int (absI x)) := rfl
  by_cases h : (10 : Int) ^ 18 ≤ absI x
  · have hd : decide ((10 : Int) ^ 18 ≤ absI x) = true := decide_eq_true h
    simp only [EG, wipeE, biO, one1, ha, binO, hp, cmpO, cmpD, intCmp, tru, hd, List.set_cons_succ, List.set_cons_zero, List.getElem?_cons_succ, List.getElem?_cons_zero, Option.map_some, if_true]
  · have hd : decide ((10 : Int) ^ 18 ≤ absI x) = false := decide_eq_false h
    simp only [EG, wipeE, biO, one1, ha, binO, hp, cmpO, cmpD, intCmp, tru, hd, List.set_cons_succ, List.set_cons_zero, List.getElem?_cons_succ, List.getElem?_cons_zero, Option.map_some, if_false, Bool.false_eq_true]
theorem pool_ok (ns : List Int) (hn : ns.length ≤ 63) : ∃ p, s__law_pool [.scr ns] none = .ok .pool (some p) := by
  let I : Nat → Dv.Env → G → Prop := fun _ env g => g = none ∧ ∃ s x3, env = [some (.scr ns, false), some (.int s, false), x3] ∧ noOwn env = true
  have loop := fun env g h0 => forGo_inv (t := .one 2) (b := evSs false (.cons (.set [] (.one 1) (.bin .Mod (.bi .int (.cons (.bin .Add (.bin .Add (.bin .Mult (.var 1) (.cst (.int 48271))) (.bin .Mod (.bi .int (.cons (.var 2) .nil)) (.cst (.int 2147483629)))) (.cst (.int 11))) .nil)) (.cst (.int 2147483647)))) .nil)) (ds := (cutL ns none (some 63)).map D.int) I (env := env) (g := g) h0
    fun i hi env g ⟨hg, s, x3, he, _⟩ => by
      subst he hg
      refine ⟨_, rfl, [some (.scr ns, false), some (.int ((s * 48271 + (cutL ns none (some 63))[i]'(by simpa using hi) % 2147483629 + 11) % 2147483647), false), some (.int ((cutL ns none (some 63))[i]'(by simpa using hi)), false)], none, .inl ?_, rfl, _, _, rfl, by simp [noOwn]⟩
      simp [EI, ES, EV, EG, wipeE, imm, after, setTg, binO, addD, mul_r small_48271, mod_ok, biO, one1, intF]
  obtain ⟨env', g', h1, hg, s, x3, he, hno⟩ := loop [some (.scr ns, false), some (.int ((cutL ns none (some 1)).sum % 1000003 + ns.length + 1), false), none] none ⟨rfl, _, _, rfl, by simp [noOwn]⟩
  subst he hg
  refine ⟨⟨s, 0, ((cutL ns none (some 63)).filter fun x => decide ((10 : Int) ^ 18 ≤ absI x)).map absI⟩, ?_⟩
  simp [EI, EV] at h1
  have hm : (((cutL ns none (some 63)).filter fun x => decide ((10 : Int) ^ 18 ≤ absI x)).map fun x => D.int (absI x)) = (((cutL ns none (some 63)).filter fun x => decide ((10 : Int) ^ 18 ≤ absI x)).map absI).map D.int := by rw [List.map_map]; rfl
  have hc := pool_comp ns hn (some (.int s, false)) x3 none
  rw [hm] at hc
  have hsum : sumF (cutL (List.map D.int ns) none (some 1)) = some (.int (cutL ns none (some 1)).sum) := by rw [cutL_map, sumF_map]
  have hfor : seqM (slcM (getM 0) noP (someP fun _ => M.ret (.int 63))) [some (.scr ns, false), some (.int ((cutL ns none (some 1)).sum % 1000003 + ns.length + 1), false), none] none = .ok ((cutL ns none (some 63)).map D.int) none := by
    simp [EG, slcO, asI, seqO, cutL_map]
  have hret : sRetP (getM 1) (fun _ => M.ret (.int 0)) (compM [2] (.one 2) (seqM (slcM (getM 0) noP (someP fun _ => M.ret (.int 63)))) (truM (bind2 (cmpO CmpOp.GtE) (thenM (consM (getM 2) nilM) (biO BI.abs)) (bind2 (binO Operator.Pow) (fun _ => M.ret (D.int 10)) fun _ => M.ret (D.int 18)))) (thenM (consM (getM 2) nilM) (biO .abs))) [some (.scr ns, false), some (.int s, false), x3] none =
      .ok (.rt .pool [some (.scr ns, false), some (.int s, false), x3]) (some ⟨s, 0, ((cutL ns none (some 63)).filter fun x => decide ((10 : Int) ^ 18 ≤ absI x)).map absI⟩) := by
    unfold sRetP
    rw [if_pos hno]
    have hb : (M.bind (getM 1 [some (.scr ns, false), some (.int s, false), x3]) fun da => M.bind (M.ret (D.int 0)) fun db => M.bind (compM [2] (Tg.one 2) (seqM (slcM (getM 0) noP (someP fun _ => M.ret (D.int 63)))) (truM (bind2 (cmpO CmpOp.GtE) (thenM (consM (getM 2) nilM) (biO BI.abs)) (bind2 (binO Operator.Pow) (fun _ => M.ret (D.int 10)) fun _ => M.ret (D.int 18)))) (thenM (consM (getM 2) nilM) (biO .abs)) [some (.scr ns, false), some (.int s, false), x3]) fun dc => M.ret (da, db, dc)) none = R.ok (D.int s, D.int 0, D.lst ((((cutL ns none (some 63)).filter fun x => decide ((10 : Int) ^ 18 ≤ absI x)).map absI).map D.int)) none := by
      unfold M.bind
      simp only [EG, List.getElem?_cons_succ, List.getElem?_cons_zero]
      rw [hc]
      rfl
    rw [hb]
    have hk : mkPool (.int s) (.int 0) (.lst ((((cutL ns none (some 63)).filter fun x => decide ((10 : Int) ^ 18 ≤ absI x)).map absI).map D.int)) = some ⟨s, 0, ((cutL ns none (some 63)).filter fun x => decide ((10 : Int) ^ 18 ≤ absI x)).map absI⟩ := by
      unfold mkPool
      simp only [asI]
      rw [intsOf_map]
      rfl
    simp only [hk]
  simp [EI, EV, binO, biO] at h1 hret
  simp [s__law_pool, ir__law_pool, runD, EI, ES, EV, EG, envOf, wipeE, endM, imm, after, setTg, binO, addD, mod_ok, biO, one1, intF, onL, slcO, asI, cutL_map, sumF_map, lenF, isRng, seqO, frzE, h1, hret]
def mm (r : Int × Int) : Int × Int := (min r.1 r.2, max r.1 r.2)
def winStep (kind total top k : Int) (p : PSt) : (Int × Int) × PSt :=
  if kind = 0 then
    (if 0 < drawV (drawP (drawP p (top + 1)) (top + 1)) 4 then
      ((drawV (drawP (drawP (drawP p (top + 1)) (top + 1)) 4) (total / 2 + 1), total - drawV (drawP (drawP (drawP p (top + 1)) (top + 1)) 4) (total / 2 + 1)), drawP (drawP (drawP (drawP p (top + 1)) (top + 1)) 4) (total / 2 + 1))
    else ((drawV p (top + 1), drawV (drawP p (top + 1)) (top + 1)), drawP (drawP (drawP p (top + 1)) (top + 1)) 4))
  else if kind = 1 then
    ((k + drawV (drawP (drawP p (top + 1)) (top + 1)) 2, k + drawV (drawP (drawP p (top + 1)) (top + 1)) 2 + 2 + drawV (drawP (drawP (drawP p (top + 1)) (top + 1)) 2) 2), drawP (drawP (drawP (drawP p (top + 1)) (top + 1)) 2) 2)
  else ((drawV p (top + 1), drawV (drawP p (top + 1)) (top + 1)), drawP (drawP p (top + 1)) (top + 1))
theorem mm_ok {a b : Int} (h1 : 0 ≤ a) (h2 : 0 ≤ b) (h3 : a ≤ 1000000) (h4 : b ≤ 1000000) : winOk (mm (a, b)) := by
  refine ⟨?_, ?_, ?_⟩ <;> simp only [mm] <;> omega
theorem winStep_ok (kind total top k : Int) (p : PSt) (h0 : 0 ≤ top) (h1 : top ≤ 500000) (h2 : top ≤ total) (h3 : total ≤ 2 * top) (hk : 0 ≤ k) (hk2 : k < 1000) : winOk (mm (winStep kind total top k p).1) := by
  have a1 := fun q : PSt => drawV_lo q (m := top + 1) (by omega)
  have a2 := fun q : PSt => drawV_hi q (m := top + 1) (by omega)
  have b1 := fun q : PSt => drawV_lo q (m := 2) (by omega)
  have b2 := fun q : PSt => drawV_hi q (m := 2) (by omega)
  have c1 := fun q : PSt => drawV_lo q (m := total / 2 + 1) (by omega)
  have c2 := fun q : PSt => drawV_hi q (m := total / 2 + 1) (by omega)
  unfold winStep
  split
  · split
    · have x1 := c1 (drawP (drawP (drawP p (top + 1)) (top + 1)) 4)
      have x2 := c2 (drawP (drawP (drawP p (top + 1)) (top + 1)) 4)
      exact mm_ok (by omega) (by omega) (by omega) (by omega)
    · have x1 := a1 p
      have x2 := a2 p
      have x3 := a1 (drawP p (top + 1))
      have x4 := a2 (drawP p (top + 1))
      exact mm_ok (by omega) (by omega) (by omega) (by omega)
  · split
    · have x1 := b1 (drawP (drawP p (top + 1)) (top + 1))
      have x2 := b2 (drawP (drawP p (top + 1)) (top + 1))
      have x3 := b1 (drawP (drawP (drawP p (top + 1)) (top + 1)) 2)
      have x4 := b2 (drawP (drawP (drawP p (top + 1)) (top + 1)) 2)
      exact mm_ok (by omega) (by omega) (by omega) (by omega)
    · have x1 := a1 p
      have x2 := a2 p
      have x3 := a1 (drawP p (top + 1))
      have x4 := a2 (drawP p (top + 1))
      exact mm_ok (by omega) (by omega) (by omega) (by omega)
theorem ownL4 (x0 x1 x2 x3 x5 x6 x7 x8 : Option (D × Bool)) (ds : List D) : ownL [x0, x1, x2, x3, some (.lst ds, true), x5, x6, x7, x8] 4 = some ds := rfl
/-- the body of the windows' loop -/
def ir_wb : SIs :=
 (.cons (.set [4] (.one 7) (.call "_law_draw" 2 s__law_draw (.cons (.var 0) (.cons (.bin .Add (.var 2) (.cst (.int 1))) .nil))))
 (.cons (.set [4] (.one 8) (.call "_law_draw" 2 s__law_draw (.cons (.var 0) (.cons (.bin .Add (.var 2) (.cst (.int 1))) .nil))))
 (.cons (.ifs (.and (.cmp .Eq (.var 3) (.cst (.int 0))) (.last (.cmp .Gt (.call "_law_draw" 2 s__law_draw (.cons (.var 0) (.cons (.cst (.int 4)) .nil))) (.cst (.int 0)))))
 (.cons (.set [4] (.one 7) (.call "_law_draw" 2 s__law_draw (.cons (.var 0) (.cons (.bin .Add (.bin .FloorDiv (.var 5) (.cst (.int 2))) (.cst (.int 1))) .nil))))
 (.cons (.set [4] (.one 8) (.bin .Sub (.var 5) (.var 7)))
 .nil))
 .nil)
 (.cons (.ifs (.cmp .Eq (.var 3) (.cst (.int 1)))
 (.cons (.set [4] (.one 7) (.bin .Add (.var 6) (.call "_law_draw" 2 s__law_draw (.cons (.var 0) (.cons (.cst (.int 2)) .nil)))))
 (.cons (.set [4] (.one 8) (.bin .Add (.bin .Add (.var 7) (.cst (.int 2))) (.call "_law_draw" 2 s__law_draw (.cons (.var 0) (.cons (.cst (.int 2)) .nil)))))
 .nil))
 .nil)
 (.cons (.app [4] 4 (.tup (.cons (.bi .min2 (.cons (.var 7) (.cons (.var 8) .nil))) (.cons (.bi .max2 (.cons (.var 7) (.cons (.var 8) .nil))) .nil))))
 .nil)))))
theorem wb_ok (n top kind total k : Int) (ws : Ws) (x7 x8 : Option (D × Bool)) (p : PSt) (h0 : 0 ≤ top) (h1 : top ≤ 500000) (h2 : top ≤ total) (h3 : total ≤ 2 * top) (hl : ws.length ≤ 1000) :
    evSs false ir_wb [some (.pool, false), some (.int n, false), some (.int top, false), some (.int kind, false), some (.lst (ws.map winD), true), some (.int total, false), some (.int k, false), x7, x8] (some p) =
      .ok (.nx [some (.pool, false), some (.int n, false), some (.int top, false), some (.int kind, false), some (.lst ((ws ++ [mm (winStep kind total top k p).1]).map winD), true), some (.int total, false), some (.int k, false), some (.int (winStep kind total top k p).1.1, false), some (.int (winStep kind total top k p).1.2, false)]) (some (winStep kind total top k p).2) := by
  have d1 := fun q : PSt => draw_ok q (top + 1) (by omega) (by omega)
  have d2 := fun q : PSt => draw_ok q 2 (by omega) (by omega)
  have d4 := fun q : PSt => draw_ok q 4 (by omega) (by omega)
  have dt := fun q : PSt => draw_ok q (total / 2 + 1) (by omega) (by omega)
  have hsz : (ws.map winD).length < sizeLine := by rw [sizeLine_eq]; simp; omega
  have hsz2 : ws.length < sizeLine := by simpa using hsz
  by_cases k0 : kind = 0
  · subst k0
    by_cases hd : 0 < drawV (drawP (drawP p (top + 1)) (top + 1)) 4 <;>
    simp [ir_wb, EI, ES, EV, EG, wipeE, imm, imms, after, setTg, binO, addD, subD, fdiv_ok, biO, two2, cmpO, cmpD, intCmp, eqD_int, tru, s_app, ownL, sz2, d1, d2, d4, dt, hd, hsz2, winStep, mm, winD]
  · by_cases k1 : kind = 1
    · subst k1
      simp [ir_wb, EI, ES, EV, EG, wipeE, imm, imms, after, setTg, binO, addD, subD, fdiv_ok, biO, two2, cmpO, cmpD, intCmp, eqD_int, tru, s_app, ownL, sz2, d1, d2, d4, dt, hsz2, winStep, mm, winD]
    · simp [ir_wb, EI, ES, EV, EG, wipeE, imm, imms, after, setTg, binO, addD, subD, fdiv_ok, biO, two2, cmpO, cmpD, intCmp, eqD_int, tru, s_app, ownL, sz2, d1, d2, d4, dt, k0, k1, hsz2, winStep, mm, winD]
theorem ir_windows_eq : ir__law_windows = (.cons (.set [4] (.one 3) (.call "_law_draw" 2 s__law_draw (.cons (.var 0) (.cons (.cst (.int 4)) .nil))))
 (.cons (.own [4] 4 (.lst .nil))
 (.cons (.set [4] (.one 5) (.bin .Add (.var 2) (.call "_law_draw" 2 s__law_draw (.cons (.var 0) (.cons (.bin .Add (.var 2) (.cst (.int 1))) .nil)))))
 (.cons (.for [4] (.one 6) (.rng1 (.var 1)) ir_wb)
 (.cons (.ret [] (.bi .tuple (.cons (.var 4) .nil)))
 .nil))))) := rfl
theorem windows_okL (n : Nat) (top : Int) (hn : n ≤ 1000) (h0 : 0 ≤ top) (h1 : top ≤ 500000) (p : PSt) : ∃ ws p', s__law_windows [.pool, .int n, .int top] (some p) = .ok (winsD ws) (some p') ∧ ws.length = n ∧ ∀ w ∈ ws, winOk w := by
  have t1 := drawV_lo (drawP p 4) (m := top + 1) (by omega)
  have t2 := drawV_hi (drawP p 4) (m := top + 1) (by omega)
  have d1 := fun q : PSt => draw_ok q (top + 1) (by omega) (by omega)
  have d4 := fun q : PSt => draw_ok q 4 (by omega) (by omega)
  obtain ⟨env', g', e1, ps, ws, x6, x7, x8, hg, he, hl, hw⟩ := forGo_inv (t := .one 6) (b := evSs false ir_wb) (ds := (List.range n).map fun i => D.int (i : Nat))
    (fun i env g => ∃ (q : PSt) (ws : Ws) (x6 x7 x8 : Option (D × Bool)), g = some q ∧ env = [some (.pool, false), some (.int n, false), some (.int top, false), some (.int (drawV p 4), false), some (.lst (ws.map winD), true), some (.int (top + drawV (drawP p 4) (top + 1)), false), x6, x7, x8] ∧ ws.length = i ∧ ∀ w ∈ ws, winOk w)
    (env := [some (.pool, false), some (.int n, false), some (.int top, false), some (.int (drawV p 4), false), some (.lst [], true), some (.int (top + drawV (drawP p 4) (top + 1)), false), none, none, none]) (g := some (drawP (drawP p 4) (top + 1)))
    ⟨_, [], none, none, none, rfl, rfl, rfl, fun w hw => by cases hw⟩
    fun i hi env g ⟨q, ws, x6, x7, x8, hg, he, hl, hw⟩ => by
      subst hg he
      have hi' : i < n := by simpa using hi
      refine ⟨[some (.pool, false), some (.int n, false), some (.int top, false), some (.int (drawV p 4), false), some (.lst (ws.map winD), true), some (.int (top + drawV (drawP p 4) (top + 1)), false), some (.int (i : Nat), false), x7, x8], by simp [setTg], _, _, .inl (wb_ok n top (drawV p 4) (top + drawV (drawP p 4) (top + 1)) i ws x7 x8 q h0 h1 (by omega) (by omega) (by omega)), _, ws ++ [mm (winStep (drawV p 4) (top + drawV (drawP p 4) (top + 1)) top i q).1], _, _, _, rfl, rfl, by simp [hl], ?_⟩
      intro w hw'
      rcases List.mem_append.mp hw' with h | h
      · exact hw w h
      · rw [List.mem_singleton.mp h]
        exact winStep_ok _ _ _ _ _ h0 h1 (by omega) (by omega) (by omega) (by omega)
  subst hg he
  refine ⟨ws, ps, ?_, by simpa using hl, hw⟩
  have hr : rng1O [.int n] = some ((List.range n).map fun i => D.int (i : Nat)) := rng1_nat n (by omega)
  have hi : imms (ws.map winD) = true := imm_winsD ws
  unfold s__law_windows
  rw [ir_windows_eq]
  simp [runD, EI, ES, EV, EG, envOf, wipeE, endM, imm, kids, imms, after, setTg, binO, addD, d1, d4, sz0, isRng, hr, e1, biO, one1, tupF, winsD, hi]
theorem windows_ok (n : Nat) (top : Int) (hn : n ≤ 40) (h0 : 0 ≤ top) (h1 : top ≤ 500000) (p : PSt) : ∃ ws p', s__law_windows [.pool, .int n, .int top] (some p) = .ok (winsD ws) (some p') ∧ ws.length = n ∧ ∀ w ∈ ws, winOk w :=
  windows_okL n top (by omega) h0 h1 p
end Pm
end
section
set_option maxHeartbeats 1000000
/-! Pm2: drawn rows and lots; rows and lots judged. -/
namespace Pm
open PySem Dv Pg
theorem forGo_nil (t : Tg) (b : SM) (env : Dv.Env) (g : G) : forGo t b [] env g = .ok (.nx env) g := rfl
theorem forGo_one (i : Nat) (b : SM) (d : D) (r : List D) (env : Dv.Env) (g : G) : forGo (.one i) b (d :: r) env g = (match b (env.set i (some (d, false))) g with
      | .ok (.nx e) g' => forGo (.one i) b r e g'
      | .ok (.ct e) g' => forGo (.one i) b r e g'
      | .ok (.bk e) g' => .ok (.nx e) g'
      | r => r) := rfl
theorem forGo_many (is : List Nat) (b : SM) (ds : List D) (r : List D) (env : Dv.Env) (g : G) (h : is.length = ds.length) : forGo (.many is) b (.tup ds :: r) env g = (match b (setAll is ds env) g with
      | .ok (.nx e) g' => forGo (.many is) b r e g'
      | .ok (.ct e) g' => forGo (.many is) b r e g'
      | .ok (.bk e) g' => .ok (.nx e) g'
      | r => r) := by
  have : setTg (.many is) (.tup ds) env = some (setAll is ds env) := by simp [setTg, h]
  show (match setTg (.many is) (.tup ds) env with | none => RS.stuck | some env1 => _) = _
  rw [this]
  all_goals rfl
theorem map_erase {α β : Type} (f : α → β) : ∀ (l : List α) (i : Nat), (l.map f).eraseIdx i = (l.eraseIdx i).map f
  | [], _ => by simp
  | _ :: _, 0 => rfl
  | x :: r, i + 1 => by
    show f x :: (r.map f).eraseIdx i = f x :: (r.eraseIdx i).map f
    rw [map_erase f r i]
theorem cons_erase {α : Type} : ∀ (l : List α) (i : Nat) (h : i < l.length), (l[i] :: l.eraseIdx i).Perm l
  | x :: r, 0, _ => .refl _
  | x :: r, i + 1, h => by
    have h : i < r.length := by simpa using h
    have ih := cons_erase r i h
    exact (List.Perm.swap x r[i] _).trans (ih.cons x)
theorem g_stepM (own : List Nat) (is : List Nat) (env : Dv.Env) (ft : Dv.Env → M Bool) (fe : Dv.Env → M D) (ds : List D) (g : G) (h : is.length = ds.length) :
    compStep own (.many is) env ft fe (.tup ds) g = (match ft (setAll is ds (wipeE env own)) g with | .ok b g' => if b = true then (match fe (setAll is ds (wipeE env own)) g' with | .ok x g'' => .ok (some x) g'' | .err e g' => .err e g' | .stuck => .stuck) else .ok none g' | .err e g' => .err e g' | .stuck => .stuck) := by
  have : setTg (.many is) (.tup ds) (wipeE env own) = some (setAll is ds (wipeE env own)) := by simp [setTg, h]
  unfold compStep
  rw [this]
  show (ft _).bind _ g = _
  unfold M.bind
  cases ft (setAll is ds (wipeE env own)) g with
  | ok b g' =>
    cases b with
    | false => rfl
    | true =>
      simp only [if_true]
      cases fe (setAll is ds (wipeE env own)) g' <;> rfl
  | _ => rfl
/-- a comprehension that draws -/
theorem compGo_draw {α : Type} (step : D → M (Option D)) (emb : α → D) (f : α → D) : ∀ xs : List α, (∀ x ∈ xs, ∀ p : PSt, ∃ (b : Bool) (p' : PSt), step (emb x) (some p) = .ok (if b = true then some (f x) else none) (some p')) →
    ∀ p : PSt, ∃ (ys : List α) (p' : PSt), ys.Sublist xs ∧ compGo step (xs.map emb) (some p) = .ok (ys.map f) (some p')
  | [], _, p => ⟨[], p, .slnil, rfl⟩
  | x :: xs, h, p => by
    obtain ⟨b, p1, h1⟩ := h x List.mem_cons_self p
    obtain ⟨ys, p2, hs, h2⟩ := compGo_draw step emb f xs (fun y hy => h y (List.mem_cons_of_mem _ hy)) p1
    refine ⟨if b = true then x :: ys else ys, p2, ?_, ?_⟩
    · cases b
      · exact hs.cons x
      · exact hs.cons₂ x
    · show ((step (emb x)).safe.bind fun o => (compGo step (xs.map emb)).bind fun ys => .ret (match o with | some x => x :: ys | none => ys)) (some p) = _
      unfold M.bind M.safe
      rw [h1]
      simp only
      rw [h2]
      cases b <;> rfl
/-! rows -/
def rowD (r : List Nat) : D := .tup (r.map natD)
def lrowD (r : List Nat) : D := .lst (r.map natD)
theorem imms_row (r : List Nat) : imms (r.map natD) = true := by rw [imms_all]; simp [natD, imm]
theorem nat_ints (l : List Nat) : l.map natD = (List.map (fun k : Nat => (k : Int)) l).map D.int := by rw [List.map_map]; rfl
theorem inDD_lst (x : Int) (ys : List Int) : inDD (.int x) (.lst (ys.map D.int)) = some (ys.any fun y => y == x) := by
  refine inDD_of ?_
  unfold inD0
  have h1 : toP (.int x) = some (.int x) := rfl
  simp only [h1, toPs_ints]
  have h2 : SeqAt.shaped (.list (ys.map PyData.int)) = true := by
    unfold SeqAt.shaped
    have h1 : PyData.canLay0 (.list (ys.map PyData.int)) = true := by unfold PyData.canLay0; exact can_ints ys
    have h2 : PyData.depth (.list (ys.map PyData.int)) ≤ 64 := by
      have : PyData.depth (.list (ys.map PyData.int)) = PyData.depthAll (ys.map PyData.int) + 1 := by simp [PyData.depth]
      rw [this, depth_ints]; omega
    rw [h1, decide_eq_true h2]
    rfl
  rw [shaped_int, h2]
  simp only [Bool.and_self, if_true]
  congr 1
  rw [List.any_map]
  rfl
theorem any_mem (r : List Nat) (k : Nat) : ((List.map (fun k : Nat => (k : Int)) r).any fun y => y == (k : Int)) = decide (k ∈ r) := by
  rw [Bool.eq_iff_iff]
  simp only [List.any_eq_true, List.mem_map, decide_eq_true_eq, beq_iff_eq]
  constructor
  · rintro ⟨_, ⟨a, ha, rfl⟩, h⟩
    have : a = k := by omega
    subst this
    exact ha
  · intro h
    exact ⟨_, ⟨k, h, rfl⟩, rfl⟩
theorem in_row (r : List Nat) (k : Nat) : inDD (.int k) (rowD r) = some (decide (k ∈ r)) := by
  unfold rowD; rw [nat_ints, inDD_tup, any_mem]
theorem in_lrow (r : List Nat) (k : Nat) : inDD (.int k) (lrowD r) = some (decide (k ∈ r)) := by
  unfold lrowD; rw [nat_ints, inDD_lst, any_mem]
theorem popGo_ok : ∀ (n : Nat) (l : List Nat) (p : PSt), n = l.length → l.length ≤ 100000 → ∃ (xs : List Nat) (p' : PSt), popGo s__law_draw .pool n (l.map natD) (some p) = .ok (xs.map natD, []) (some p') ∧ xs.Perm l
  | 0, l, p, h, _ => by
    have : l = [] := List.eq_nil_of_length_eq_zero h.symm
    subst this
    exact ⟨[], p, rfl, .refl _⟩
  | n + 1, l, p, h, hl => by
    have hpos : (0 : Int) < ((l.map natD).length : Nat) := by rw [List.length_map]; omega
    have hd := draw_ok p ((l.map natD).length : Nat) hpos (by rw [List.length_map]; omega)
    have h1 := drawV_lo p hpos
    have h2 := drawV_hi p hpos
    generalize hj : drawV p ((l.map natD).length : Nat) = j at *
    have hjl : j.toNat < l.length := by rw [List.length_map] at h2; omega
    have he : (l.map natD).eraseIdx j.toNat = (l.eraseIdx j.toNat).map natD := map_erase natD l j.toNat
    obtain ⟨xs, p', h3, h4⟩ := popGo_ok n (l.eraseIdx j.toNat) (drawP p ((l.map natD).length : Nat)) (by rw [List.length_eraseIdx, if_pos hjl]; omega) (by rw [List.length_eraseIdx]; split <;> omega)
    refine ⟨l[j.toNat] :: xs, p', ?_, ?_⟩
    · unfold popGo M.bind M.safe
      rw [hd]
      simp only
      rw [if_pos ⟨h1, h2⟩, he, h3]
      simp only [M.ret]
      congr 2
      rw [List.map_cons, List.getD_eq_getElem?_getD, List.getElem?_map, List.getElem?_eq_getElem hjl]
      rfl
    · exact (h4.cons _).trans (cons_erase l j.toNat hjl)
theorem row_ok (l : List Nat) (hl : l.length ≤ 100000) (p : PSt) : ∃ (r : List Nat) (p' : PSt), s__law_row [.pool, rowD l] (some p) = .ok (rowD r) (some p') ∧ r.Perm l := by
  obtain ⟨xs, p', h1, h2⟩ := popGo_ok l.length l p rfl hl
  refine ⟨xs, p', ?_, h2⟩
  have hr : rng1O [.int (l.length : Nat)] = some ((List.range l.length).map fun i => D.int (i : Nat)) := rng1_nat _ (by omega)
  have hs : l.length ≤ sizeLine := fits _ hl
  have hk : kids (.lst (l.map natD)) = true := imms_row l
  have hlen : lenF (rowD l) = some (.int (l.length : Nat)) := by unfold rowD lenF; simp
  have hlst : lstF (rowD l) = some (.lst (l.map natD)) := rfl
  simp [s__law_row, ir__law_row, runD, EI, ES, EV, EV2, EG, envOf, wipeE, endM, after, biO, one1, hlst, hk, sRow, onI, ownL, slotD, hlen, hr, h1, hs]
  rfl
theorem of_pick (j : Int) (h0 : 0 ≤ j) (h1 : j < 3) : ∃ k : Int, idxO (.lst [.int 1, .int 2, .int 4]) (.int j) = some (.int k) ∧ 1 ≤ k ∧ k ≤ 4 := by
  have : j = 0 ∨ j = 1 ∨ j = 2 := by omega
  rcases this with rfl | rfl | rfl
  · exact ⟨1, rfl, by omega, by omega⟩
  · exact ⟨2, rfl, by omega, by omega⟩
  · exact ⟨4, rfl, by omega, by omega⟩
theorem some_ok (n : Nat) (hn : n ≤ 100000) (p : PSt) : ∃ (r : List Nat) (p' : PSt), s__law_some [.pool, .int n] (some p) = .ok (rowD r) (some p') ∧ r.Sublist (List.range n) := by
  have d3 := draw_ok p 3 (by omega) (by omega)
  obtain ⟨k, hk, k1, k2⟩ := of_pick (drawV p 3) (drawV_lo p (by omega)) (drawV_hi p (by omega))
  have hr : rng1O [.int (n : Nat)] = some ((List.range n).map natD) := rng1_nat n (by omega)
  have hc : ∀ x3 : Option (D × Bool), ∃ (ys : List Nat) (p' : PSt), ys.Sublist (List.range n) ∧ compM [3] (.one 3) (thenL (consM (getM 1) nilM) rng1O) (truM (bind2 (cmpO .Gt) (callM 2 s__law_draw (consM (getM 0) (consM (bind2 (binO .Add) (getM 2) fun _ => M.ret (.int 1)) nilM))) fun _ => M.ret (.int 0))) (getM 3)
      [some (.pool, false), some (.int n, false), some (.int k, false), x3] (some (drawP p 3)) = .ok (.lst (ys.map natD)) (some p') := fun x3 => by
    obtain ⟨ys, p', h1, h2⟩ := compGo_draw (compStep [3] (.one 3) [some (.pool, false), some (.int n, false), some (.int k, false), x3] (truM (bind2 (cmpO .Gt) (callM 2 s__law_draw (consM (getM 0) (consM (bind2 (binO .Add) (getM 2) fun _ => M.ret (.int 1)) nilM))) fun _ => M.ret (.int 0))) (getM 3)) natD natD (List.range n) (fun x _ q => by
      have dk := draw_ok q (k + 1) (by omega) (by omega)
      refine ⟨decide (0 < drawV q (k + 1)), drawP q (k + 1), ?_⟩
      rw [g_step1]
      by_cases h : 0 < drawV q (k + 1) <;>
      simp [EG, wipeE, binO, addD, dk, cmpO, cmpD, intCmp, tru, h]) (drawP p 3)
    refine ⟨ys, p', h1, ?_⟩
    rw [g_compM]
    have hi : thenL (consM (getM 1) nilM) rng1O [some (.pool, false), some (.int n, false), some (.int k, false), x3] (some (drawP p 3)) = .ok ((List.range n).map natD) (some (drawP p 3)) := by
      simp [EG, hr]
    rw [hi]
    simp only [List.length_map, List.length_range]
    rw [if_pos (fits _ hn), h2]
  obtain ⟨ys, p', h1, h2⟩ := hc none
  refine ⟨ys, p', ?_, h1⟩
  have ht : tupF (.lst (ys.map natD)) = some (rowD ys) := rfl
  have hi : imm (rowD ys) = true := imms_row ys
  simp [s__law_some, ir__law_some, runD, EI, ES, EV, EV2, EG, envOf, wipeE, endM, after, setTg, biO, one1, sz3, d3, hk, h2, ht, hi, imm]
/-! lots -/
abbrev Lot := List (Option Int)
def itD : Option Int → D
  | none => .non
  | some z => .int z
def lotD (l : Lot) : D := .tup (l.map itD)
theorem imm_it (o : Option Int) : imm (itD o) = true := by cases o <;> rfl
theorem imms_lot (l : Lot) : imms (l.map itD) = true := by rw [imms_all]; simp [imm_it]
/-- the body of the lot's loop -/
def ir_lb : SIs :=
 (.cons (.set [3] (.many [6, 7]) (.idx (.var 1) (.var 4)))
 (.cons (.set [3] (.one 5) (.call "_law_draw" 2 Pg.s__law_draw (.cons (.var 0) (.cons (.bin .Add (.bin .Add (.bin .Sub (.var 7) (.var 6)) (.cst (.int 1))) (.bi .int (.cons (.cmp .Eq (.call "_law_draw" 2 Pg.s__law_draw (.cons (.var 0) (.cons (.cst (.int 6)) .nil))) (.cst (.int 0))) .nil))) .nil))))
 (.cons (.ifs (.cmp .Gt (.call "_law_draw" 2 Pg.s__law_draw (.cons (.var 0) (.cons (.cst (.int 3)) .nil))) (.cst (.int 0)))
 (.cons (.set [3] (.one 5) (.bin .FloorDiv (.var 5) (.cst (.int 2))))
 .nil)
 .nil)
 (.cons (.app [3] 3 (.ite (.cmp .In (.var 4) (.var 2)) (.var 5) (.cst .non)))
 .nil))))
theorem lb_ok (ws : Ws) (hw : ∀ q ∈ ws, winOk q) (i : Nat) (hi : i < ws.length) (b : Bool) (wD : D) (hin : inDD (.int i) wD = some b) (acc : Lot) (hacc : acc.length ≤ 1000) (x5 x6 x7 : Option (D × Bool)) (p : PSt) : ∃ (z : Int) (p' : PSt) (x5' x6' x7' : Option (D × Bool)), (0 ≤ z ∧ z ≤ 2000000) ∧
    evSs false ir_lb [some (.pool, false), some (winsD ws, false), some (wD, false), some (.lst (acc.map itD), true), some (.int i, false), x5, x6, x7] (some p) =
      .ok (.nx [some (.pool, false), some (winsD ws, false), some (wD, false), some (.lst ((acc ++ [if b = true then some z else none]).map itD), true), some (.int i, false), x5', x6', x7']) (some p') := by
  have hwi : winOk ws[i] := hw _ (List.getElem_mem hi)
  obtain ⟨w1, w2, w3⟩ := hwi
  have d6 := draw_ok p 6 (by omega) (by omega)
  have hwd : winD ws[i] = .tup [.int ws[i].1, .int ws[i].2] := rfl
  obtain ⟨e, he, he1⟩ : ∃ e : Int, (0 ≤ e ∧ e ≤ 1) ∧ intF (.bl (decide (drawV p 6 = 0))) = some (.int e) := by
    by_cases h : drawV p 6 = 0
    · exact ⟨1, by omega, by simp [intF, h]⟩
    · exact ⟨0, by omega, by simp [intF, h]⟩
  have dl := draw_ok (drawP p 6) (ws[i].2 - ws[i].1 + 1 + e) (by omega) (by omega)
  have dl1 := drawV_lo (drawP p 6) (m := ws[i].2 - ws[i].1 + 1 + e) (by omega)
  have dl2 := drawV_hi (drawP p 6) (m := ws[i].2 - ws[i].1 + 1 + e) (by omega)
  generalize hv : drawV (drawP p 6) (ws[i].2 - ws[i].1 + 1 + e) = v at *
  have d3 := draw_ok (drawP (drawP p 6) (ws[i].2 - ws[i].1 + 1 + e)) 3 (by omega) (by omega)
  generalize hq : drawP (drawP p 6) (ws[i].2 - ws[i].1 + 1 + e) = q at *
  have hsz : (acc.map itD).length < sizeLine := by rw [sizeLine_eq, List.length_map]; omega
  have hsz2 : acc.length < sizeLine := by simpa using hsz
  have he2 : eqD (.int (drawV p 6)) (.int 0) = some (decide (drawV p 6 = 0)) := by rw [eqD_int]; rfl
  have hdiv : fdivD (.int v) (.int 2) = some (.int (v / 2)) := fdiv_ok (by omega) (by omega)
  have hv2 : 0 ≤ v / 2 := by omega
  by_cases h3 : 0 < drawV q 3
  · refine ⟨v / 2, drawP q 3, some (.int (v / 2), false), some (.int ws[i].1, false), some (.int ws[i].2, false), ⟨hv2, by omega⟩, ?_⟩
    cases b <;>
    simp [ir_lb, EI, ES, EV, EV2, EG, wipeE, after, setTg, setAll, binO, addD, subD, biO, one1, idx_wins ws i hi, hwd, imm, imms, d6, he2, he1, dl, d3, h3, cmpO, cmpD, intCmp, tru, hdiv, hin, s_app, ownL, hsz2, itD]
  · refine ⟨v, drawP q 3, some (.int v, false), some (.int ws[i].1, false), some (.int ws[i].2, false), ⟨dl1, by omega⟩, ?_⟩
    cases b <;>
    simp [ir_lb, EI, ES, EV, EV2, EG, wipeE, after, setTg, setAll, binO, addD, subD, biO, one1, idx_wins ws i hi, hwd, imm, imms, d6, he2, he1, dl, d3, h3, cmpO, cmpD, intCmp, tru, hdiv, hin, s_app, ownL, hsz2, itD]
end Pm
end
section
set_option maxHeartbeats 1000000
/-! Pm3: drawn lots; rows, lots and runs judged. -/
namespace Pm
open PySem Dv Pg
/-- a lot of so many works, of just those that P says -/
structure LotFor (n : Nat) (Q : Nat → Bool) (lot : Lot) : Prop where
  len : lot.length = n
  at_ : ∀ i, i < n → ∃ z, 0 ≤ z ∧ lot[i]? = some (if Q i = true then some z else none)
structure LotForB (n : Nat) (Q : Nat → Bool) (lot : Lot) : Prop where
  len : lot.length = n
  at_ : ∀ i, i < n → ∃ z, (0 ≤ z ∧ z ≤ 2000000) ∧ lot[i]? = some (if Q i = true then some z else none)
theorem LotForB.to {n : Nat} {Q : Nat → Bool} {lot : Lot} (h : LotForB n Q lot) : LotFor n Q lot := ⟨h.1, fun i hi => (h.2 i hi).elim fun z q => ⟨z, q.1.1, q.2⟩⟩
theorem ir_lot_eq : ir__law_lot = (.cons (.own [3] 3 (.lst .nil))
 (.cons (.for [3] (.one 4) (.rng1 (.bi .len (.cons (.var 1) .nil))) ir_lb)
 (.cons (.ret [] (.bi .tuple (.cons (.var 3) .nil)))
 .nil))) := rfl
theorem lot_okB (ws : Ws) (hl : ws.length ≤ 1000) (hw : ∀ q ∈ ws, winOk q) (wD : D) (Q : Nat → Bool) (hin : ∀ i, i < ws.length → inDD (.int i) wD = some (Q i)) (p : PSt) :
    ∃ (lot : Lot) (p' : PSt), s__law_lot [.pool, winsD ws, wD] (some p) = .ok (lotD lot) (some p') ∧ LotForB ws.length Q lot := by
  obtain ⟨env', g', e1, acc, ps, x4, x5, x6, x7, hg, he, hlen, hat⟩ := forGo_inv (t := .one 4) (b := evSs false ir_lb) (ds := (List.range ws.length).map fun i => D.int (i : Nat))
    (fun i env g => ∃ (acc : Lot) (q : PSt) (x4 x5 x6 x7 : Option (D × Bool)), g = some q ∧ env = [some (.pool, false), some (winsD ws, false), some (wD, false), some (.lst (acc.map itD), true), x4, x5, x6, x7] ∧ acc.length = i ∧ ∀ j, j < i → ∃ z, (0 ≤ z ∧ z ≤ 2000000) ∧ acc[j]? = some (if Q j = true then some z else none))
    (env := [some (.pool, false), some (winsD ws, false), some (wD, false), some (.lst [], true), none, none, none, none]) (g := some p) ⟨[], p, none, none, none, none, rfl, rfl, rfl, fun j h => by omega⟩
    fun i hi env g ⟨acc, q, x4, x5, x6, x7, hg, he, hlen, hat⟩ => by
      subst hg he
      have hi' : i < ws.length := by simpa using hi
      obtain ⟨z, p', y5, y6, y7, hz, hb⟩ := lb_ok ws hw i hi' (Q i) wD (hin i hi') acc (by omega) x5 x6 x7 q
      refine ⟨[some (.pool, false), some (winsD ws, false), some (wD, false), some (.lst (acc.map itD), true), some (.int (i : Nat), false), x5, x6, x7], by simp [setTg], _, _, .inl hb, acc ++ [if Q i = true then some z else none], p', some (.int i, false), y5, y6, y7, rfl, rfl, by simp [hlen], fun j hj => ?_⟩
      by_cases h : j < i
      · obtain ⟨z', h1, h2⟩ := hat j h
        exact ⟨z', h1, by rw [List.getElem?_append_left (by omega)]; exact h2⟩
      · have : j = i := by omega
        subst this
        exact ⟨z, hz, by rw [List.getElem?_append_right (by omega), hlen, Nat.sub_self]; rfl⟩
  subst hg he
  have hlen : acc.length = ws.length := by simpa using hlen
  refine ⟨acc, ps, ?_, hlen, fun i hi => hat i (by simpa using hi)⟩
  have hr : rng1O [.int (ws.length : Nat)] = some ((List.range ws.length).map fun i => D.int (i : Nat)) := rng1_nat _ (by omega)
  have ht : tupF (.lst (acc.map itD)) = some (lotD acc) := rfl
  have hi : imm (lotD acc) = true := imms_lot acc
  unfold s__law_lot
  rw [ir_lot_eq]
  simp [runD, EI, ES, EV, EV2, EG, envOf, wipeE, endM, imm, kids, imms, after, setTg, sz0, isRng, biO, one1, len_wins, hr, e1, ht, hi]
theorem lot_ok (ws : Ws) (hl : ws.length ≤ 1000) (hw : ∀ q ∈ ws, winOk q) (wD : D) (Q : Nat → Bool) (hin : ∀ i, i < ws.length → inDD (.int i) wD = some (Q i)) (p : PSt) :
    ∃ (lot : Lot) (p' : PSt), s__law_lot [.pool, winsD ws, wD] (some p) = .ok (lotD lot) (some p') ∧ LotFor ws.length Q lot := by
  obtain ⟨lot, p', e, h⟩ := lot_okB ws hl hw wD Q hin p
  exact ⟨lot, p', e, h.to⟩
/-! rows judged -/
theorem distN_nodup (r : List Nat) (h : r.Nodup) : distN (r.map fun k : Nat => (k : Int)) = r.length := by
  unfold distN
  rw [RZ.firstMet_nodup _ _ (Nat.le_refl _), List.take_length, List.length_map]
  exact List.Pairwise.map _ (fun a b hne he => hne (by omega)) h
theorem isi_tup (ds : List D) : isiF [.tup ds, .con (.ty "tuple")] = some (.bl true) := rfl
/-- a row of works below n -/
structure RowOk (n : Nat) (r : List Nat) : Prop where
  lt : ∀ k ∈ r, k < n
  nd : r.Nodup
theorem nodup_lt : ∀ (n : Nat) (r : List Nat), r.Nodup → (∀ k ∈ r, k < n) → r.length ≤ n
  | 0, r, _, h => by
    cases r with
    | nil => simp
    | cons x r => exact absurd (h x List.mem_cons_self) (by omega)
  | n + 1, r, hn, h => by
    by_cases hm : n ∈ r
    · have ih := nodup_lt n (r.erase n) (hn.erase n) fun k hk => by
        have h1 := h k (List.mem_of_mem_erase hk)
        have h2 : k ≠ n := fun e => by
          subst e
          exact (List.Nodup.mem_erase_iff hn).mp hk |>.1 rfl
        omega
      rw [List.length_erase_of_mem hm] at ih
      omega
    · have ih := nodup_lt n r hn fun k hk => by
        have h1 := h k hk
        have h2 : k ≠ n := fun e => hm (e ▸ hk)
        omega
      omega
theorem RowOk.len {n : Nat} {r : List Nat} (h : RowOk n r) : r.length ≤ n := by
  exact nodup_lt n r h.nd h.lt
theorem all_trues {α : Type} (xs : List α) : allF (xs.map fun _ => D.bl true) = some (.bl true) := by
  unfold allF
  rw [boolsD_map]
  simp
theorem work_comp (ws : Ws) (r : List Nat) (hr : RowOk ws.length r) (hl : ws.length ≤ 4000) (x2 : Option (D × Bool)) (g : G) :
    compM [2] (.one 2) (seqM (getM 1)) yesT (callM 2 s_is_work (consM (getM 0) (consM (getM 2) nilM))) [some (bookD ws, false), some (rowD r, false), x2] g = .ok (.lst (r.map fun _ => .bl true)) g := by
  have := hr.len
  rw [g_compM]
  have h1 : seqM (getM 1) [some (bookD ws, false), some (rowD r, false), x2] g = .ok (r.map natD) g := by simp [EG, rowD, seqO]
  rw [h1]
  simp only [List.length_map]
  rw [if_pos (fits _ (by omega)), compGo_all _ natD (fun _ => .bl true) g r fun k hk => ?_]
  have hk := hr.lt k hk
  have h2 : (k : Int) ≤ (ws.length : Int) - 1 := by omega
  rw [g_step1]
  simp [EG, wipeE, natD, is_work_int, h2]
theorem is_row_ok (ws : Ws) (r : List Nat) (hr : RowOk ws.length r) (hl : ws.length ≤ 4000) (g : G) : s_is_row [bookD ws, rowD r] g = .ok (.bl true) g := by
  have := hr.len
  have h1 : isiF [rowD r, .con (.ty "tuple")] = some (.bl true) := rfl
  have h2 : lstF (rowD r) = some (lrowD r) := rfl
  have h3 : lsetO (lrowD r) = some (.int (r.length : Nat)) := by
    unfold lsetO lrowD
    simp only
    rw [nat_ints, intsD_map]
    simp only [Option.bind_some, List.length_map]
    rw [if_pos (by omega), distN_nodup r hr.nd]
  have h4 : lenF (rowD r) = some (.int (r.length : Nat)) := by unfold rowD lenF; simp
  simp [s_is_row, ir_is_row, runD, EI, ES, EV, EV2, EG, envOf, wipeE, endM, imm, after, h1, h2, h3, h4, work_comp ws r hr hl, biO, one1, onL, all_trues, tru, cmpO, cmpD, eqD_int]
theorem check_row_ok (ws : Ws) (r : List Nat) (hr : RowOk ws.length r) (hl : ws.length ≤ 4000) (g : G) : s_check_row [bookD ws, rowD r] g = .ok .non g := by
  simp [s_check_row, ir_check_row, runD, EI, ES, EV, EV2, EG, envOf, wipeE, endM, imm, after, is_row_ok ws r hr hl, tru]
theorem is_from_int (z a : Int) (g : G) : s_is_from [.int z, .int a] g = .ok (.bl (decide (a ≤ z))) g := by
  simp [s_is_from, ir_is_from, runD, EI, ES, EV, EV2, EG, envOf, wipeE, endM, imm, after, is_integer_int, cmpO, cmpD, intCmp, tru]
/-- a lot of lengths -/
def LotOk (n : Nat) (lot : Lot) : Prop := lot.length = n ∧ ∀ z, some z ∈ lot → 0 ≤ z
theorem item_comp (ws : Ws) (lot : Lot) (hl : LotOk ws.length lot) (hn : ws.length ≤ 4000) (x2 : Option (D × Bool)) (g : G) :
    compM [2] (.one 2) (seqM (getM 1)) yesT (Dv.orM (bind2 (cmpO .Is) (getM 2) fun _ => M.ret .non) (callM 2 s_is_from (consM (getM 2) (consM (fun _ => M.ret (.int 0)) nilM)))) [some (bookD ws, false), some (lotD lot, false), x2] g = .ok (.lst (lot.map fun _ => .bl true)) g := by
  rw [g_compM]
  have h1 : seqM (getM 1) [some (bookD ws, false), some (lotD lot, false), x2] g = .ok (lot.map itD) g := by simp [EG, lotD, seqO]
  rw [h1]
  simp only [List.length_map]
  rw [if_pos (fits _ (by have := hl.1; omega)), compGo_all _ itD (fun _ => .bl true) g lot fun o ho => ?_]
  rw [g_step1]
  cases o with
  | none => simp [EG, wipeE, itD, cmpO, cmpD, isD, isNon, isCon, tru]
  | some z => simp [EG, wipeE, itD, cmpO, cmpD, isD, isNon, isCon, tru, is_from_int, hl.2 z ho]
theorem is_lot_ok (ws : Ws) (lot : Lot) (hl : LotOk ws.length lot) (hn : ws.length ≤ 4000) (g : G) : s_is_lot [bookD ws, lotD lot] g = .ok (.bl true) g := by
  have h1 : isiF [lotD lot, .con (.ty "tuple")] = some (.bl true) := rfl
  have h4 : lenF (lotD lot) = some (.int (ws.length : Nat)) := by unfold lotD lenF; simp [hl.1]
  simp [s_is_lot, ir_is_lot, runD, EI, ES, EV, EV2, EG, envOf, wipeE, endM, imm, after, h1, h4, many_of_ok, item_comp ws lot hl hn, biO, one1, onL, all_trues, tru, cmpO, cmpD, eqD_int]
theorem check_lot_ok (ws : Ws) (lot : Lot) (hl : LotOk ws.length lot) (hn : ws.length ≤ 4000) (g : G) : s_check_lot [bookD ws, lotD lot] g = .ok .non g := by
  simp [s_check_lot, ir_check_lot, runD, EI, ES, EV, EV2, EG, envOf, wipeE, endM, imm, after, is_lot_ok ws lot hl hn, tru]
theorem enum_map {α : Type} (f : α → D) : ∀ (k : Nat) (xs : List α), enumD k (xs.map f) = (xs.zipIdx k).map fun q => .tup [.int (q.2 : Nat), f q.1]
  | _, [] => rfl
  | k, x :: r => by
    rw [List.map_cons, List.zipIdx_cons, List.map_cons, ← enum_map f (k + 1) r]
    rfl
/-- who is there stands in the row -/
def LotIn (lot : Lot) (r : List Nat) : Prop := ∀ i z, lot[i]? = some (some z) → i ∈ r
theorem run_comp (ws : Ws) (r : List Nat) (lot : Lot) (hn : lot.length ≤ 4000) (hin : LotIn lot r) (x0 x3 x4 : Option (D × Bool)) (g : G) :
    compM [3, 4] (.many [3, 4]) (thenL (consM (getM 2) nilM) enumO) yesT (Dv.andM (bind2 (cmpO .IsNot) (getM 4) fun _ => M.ret .non) (bind2 (cmpO .NotIn) (getM 3) (getM 1))) [x0, some (rowD r, false), some (lotD lot, false), x3, x4] g =
      .ok (.lst (lot.zipIdx.map fun _ => .bl false)) g := by
  rw [g_compM]
  have h1 : thenL (consM (getM 2) nilM) enumO [x0, some (rowD r, false), some (lotD lot, false), x3, x4] g = .ok (enumD 0 (lot.map itD)) g := by simp [EG, lotD, enumO]
  rw [h1]
  simp only
  rw [if_pos (fits _ (by rw [enumD_len, List.length_map]; omega)), enum_map, compGo_all _ (fun q : Option Int × Nat => .tup [.int (q.2 : Nat), itD q.1]) (fun _ => .bl false) g _ fun q hq => ?_]
  rw [g_stepM _ _ _ _ _ _ _ rfl]
  obtain ⟨o, i⟩ := q
  have hi : lot[i]? = some o := by
    have := List.mem_zipIdx_iff_getElem?.mp hq
    simpa using this
  have hm := in_row r i
  cases o with
  | none => simp [EG, wipeE, setAll, itD, cmpO, cmpD, isD, isNon, isCon, tru]
  | some z =>
    have : i ∈ r := hin i z hi
    simp [EG, wipeE, setAll, itD, cmpO, cmpD, isD, isNon, isCon, tru, hm, this]
theorem any_falses {α : Type} (xs : List α) : anyF (xs.map fun _ => D.bl false) = some (.bl false) := by
  unfold anyF
  rw [boolsD_map]
  simp
theorem check_run_ok (ws : Ws) (r : List Nat) (lot : Lot) (hr : RowOk ws.length r) (hl : LotOk ws.length lot) (hin : LotIn lot r) (hn : ws.length ≤ 4000) (g : G) : s_check_run [bookD ws, rowD r, lotD lot] g = .ok .non g := by
  have hc := fun x0 x3 x4 g => run_comp ws r lot (by have := hl.1; omega) hin x0 x3 x4 g
  simp [s_check_run, ir_check_run, runD, EI, ES, EV, EV2, EG, envOf, wipeE, endM, imm, after, check_row_ok ws r hr hn, check_lot_ok ws lot hl hn, hc, biO, one1, onL, any_falses, tru]
end Pm
end
section
set_option maxHeartbeats 1000000
/-! Pm4: runs. -/
namespace Pm
open PySem Dv Pg
abbrev Tri := Nat × Int × Int
def triD (t : Tri) : D := .tup [.int (t.1 : Nat), .int t.2.1, .int t.2.2]
def lenAt (lot : Lot) (w : Nat) : Option Int := lot.getD w none
def firstW (ws : Ws) (w : Nat) : Int := (ws.getD w (0, 0)).1
def lastW (ws : Ws) (w : Nat) : Int := (ws.getD w (0, 0)).2
/-- the run of a row -/
def ranGo (ws : Ws) (lot : Lot) : Int → List Nat → List Tri
  | _, [] => []
  | c, w :: r => match lenAt lot w with
    | none => ranGo ws lot c r
    | some l => (w, max c (firstW ws w), max c (firstW ws w) + l) :: ranGo ws lot (max c (firstW ws w) + l) r
theorem ranGo_len (ws : Ws) (lot : Lot) : ∀ (r : List Nat) (c : Int), (ranGo ws lot c r).length ≤ r.length
  | [], _ => Nat.le_refl _
  | w :: r, c => by
    unfold ranGo
    split
    · exact Nat.le_trans (ranGo_len ws lot r c) (by simp)
    · simp only [List.length_cons]
      have := ranGo_len ws lot r
      exact Nat.succ_le_succ (this _)
theorem ranGo_mem (ws : Ws) (lot : Lot) : ∀ (r : List Nat) (c : Int) (t : Tri), t ∈ ranGo ws lot c r → t.1 ∈ r
  | [], _, _, h => by cases h
  | w :: r, c, t, h => by
    unfold ranGo at h
    split at h
    · exact List.mem_cons_of_mem _ (ranGo_mem ws lot r c t h)
    · rcases List.mem_cons.mp h with rfl | h
      · exact List.mem_cons_self
      · exact List.mem_cons_of_mem _ (ranGo_mem ws lot r _ t h)
theorem imm_tri (t : Tri) : imm (triD t) = true := rfl
theorem imms_tri (ts : List Tri) : imms (ts.map triD) = true := by rw [imms_all]; simp [imm_tri]
theorem idx_lot (lot : Lot) (w : Nat) (h : w < lot.length) : idxO (lotD lot) (.int (w : Nat)) = some (itD (lenAt lot w)) := by
  show L2.atI (lot.map itD) (w : Int) = _
  rw [atI_nat _ _ (by omega) (by simpa using h)]
  simp [lenAt, h]
theorem firstW_eq (ws : Ws) (w : Nat) (h : w < ws.length) : firstW ws w = ws[w].1 := by simp [firstW, h]
theorem lastW_eq (ws : Ws) (w : Nat) (h : w < ws.length) : lastW ws w = ws[w].2 := by simp [lastW, h]
theorem isnot_it (o : Option Int) : cmpO .IsNot (itD o) .non = some (.bl o.isSome) := by cases o <;> rfl
/-- the body of ran's loop -/
def ir_rb : SIs :=
 (.cons (.ifs (.cmp .IsNot (.idx (.var 2) (.var 5)) (.cst .non))
 (.cons (.set [3] (.one 6) (.bi .max2 (.cons (.var 4) (.cons (.call "first_of" 2 Pg.s_first_of (.cons (.var 0) (.cons (.var 5) .nil))) .nil))))
 (.cons (.set [3] (.one 4) (.bin .Add (.var 6) (.idx (.var 2) (.var 5))))
 (.cons (.app [3] 3 (.tup (.cons (.var 5) (.cons (.var 6) (.cons (.var 4) .nil)))))
 .nil)))
 .nil)
 .nil)
theorem ir_ran_eq : ir_ran = (.cons (.own [3] 3 (.lst .nil))
 (.cons (.set [3] (.one 4) (.cst (.int 0)))
 (.cons (.for [3] (.one 5) (.seq (.var 1)) ir_rb)
 (.cons (.ret [] (.var 3))
 .nil)))) := rfl
theorem rb_ok (ws : Ws) (lot : Lot) (hl : lot.length = ws.length) (w : Nat) (hw : w < ws.length) (x1 : Option (D × Bool)) (acc : List Tri) (hacc : acc.length ≤ 10000) (c : Int) (x6 : Option (D × Bool)) (g : G) : ∃ x6' : Option (D × Bool),
    evSs false ir_rb [some (bookD ws, false), x1, some (lotD lot, false), some (.lst (acc.map triD), true), some (.int c, false), some (natD w, false), x6] g =
      .ok (.nx (match lenAt lot w with
        | none => [some (bookD ws, false), x1, some (lotD lot, false), some (.lst (acc.map triD), true), some (.int c, false), some (natD w, false), x6']
        | some l => [some (bookD ws, false), x1, some (lotD lot, false), some (.lst ((acc ++ [(w, max c (firstW ws w), max c (firstW ws w) + l)]).map triD), true), some (.int (max c (firstW ws w) + l), false), some (natD w, false), x6'])) g := by
  have h1 := idx_lot lot w (by omega)
  have h2 : acc.length < sizeLine := Nat.lt_of_le_of_lt hacc (by rw [sizeLine_eq]; omega)
  have hn : natD w = .int (w : Nat) := rfl
  rw [hn]
  cases ho : lenAt lot w with
  | none =>
    rw [ho] at h1
    refine ⟨x6, ?_⟩
    simp [ir_rb, EI, ES, EV, EV2, EG, h1, isnot_it, tru]
  | some l =>
    rw [ho] at h1
    have h1' : idxO (lotD lot) (.int (w : Nat)) = some (.int l) := h1
    refine ⟨some (.int (max c (firstW ws w)), false), ?_⟩
    rw [firstW_eq ws w hw]
    simp [ir_rb, EI, ES, EV, EV2, EG, wipeE, h1', isnot_it, tru, biO, two2, first_of_ok ws w hw, after, imm, imms, setTg, binO, addD, s_app, ownL, sz3, h2, triD, cmpO, cmpD, isD, isNon, isCon]
theorem ran_loop (ws : Ws) (lot : Lot) (hl : lot.length = ws.length) (x1 : Option (D × Bool)) (g : G) : ∀ (r : List Nat), (∀ k ∈ r, k < ws.length) → ∀ (acc : List Tri) (c : Int) (x5 x6 : Option (D × Bool)), acc.length + r.length ≤ 10000 →
    ∃ (c' : Int) (x5' x6' : Option (D × Bool)), forGo (.one 5) (evSs false ir_rb) (r.map natD) [some (bookD ws, false), x1, some (lotD lot, false), some (.lst (acc.map triD), true), some (.int c, false), x5, x6] g =
      .ok (.nx [some (bookD ws, false), x1, some (lotD lot, false), some (.lst ((acc ++ ranGo ws lot c r).map triD), true), some (.int c', false), x5', x6']) g
  | [], _, acc, c, x5, x6, _ => ⟨c, x5, x6, by simp [forGo_nil, ranGo]⟩
  | w :: r, hr, acc, c, x5, x6, hn => by
    obtain ⟨x6', hb⟩ := rb_ok ws lot hl w (hr w List.mem_cons_self) x1 acc (by omega) c x6 g
    rw [List.map_cons, forGo_one]
    simp only [List.set_cons_succ, List.set_cons_zero]
    rw [hb]
    unfold ranGo
    cases ho : lenAt lot w with
    | none =>
      simp only
      exact ran_loop ws lot hl x1 g r (fun k hk => hr k (List.mem_cons_of_mem _ hk)) acc c _ _ (by simp at hn; omega)
    | some l =>
      simp only
      obtain ⟨c', a, b, h⟩ := ran_loop ws lot hl x1 g r (fun k hk => hr k (List.mem_cons_of_mem _ hk)) (acc ++ [(w, max c (firstW ws w), max c (firstW ws w) + l)]) (max c (firstW ws w) + l) (some (natD w, false)) x6' (by simp at hn ⊢; omega)
      refine ⟨c', a, b, ?_⟩
      rw [h, List.append_assoc]
      rfl
theorem ran_ok (ws : Ws) (r : List Nat) (lot : Lot) (hr : ∀ k ∈ r, k < ws.length) (hn : r.length ≤ 10000) (hl : lot.length = ws.length) (g : G) : s_ran [bookD ws, rowD r, lotD lot] g = .ok (.lst ((ranGo ws lot 0 r).map triD)) g := by
  obtain ⟨c', x5', x6', h⟩ := ran_loop ws lot hl (some (rowD r, false)) g r hr [] 0 none none (by simpa using hn)
  have hs : seqO (rowD r) = some (r.map natD) := rfl
  simp at h
  unfold s_ran
  rw [ir_ran_eq]
  simp [runD, EI, ES, EV, EV2, EG, envOf, wipeE, endM, imm, kids, imms, after, setTg, sz0, isRng, hs, frzE, h, imms_tri]
theorem run_ok (ws : Ws) (r : List Nat) (lot : Lot) (hr : RowOk ws.length r) (hl : LotOk ws.length lot) (hin : LotIn lot r) (hn : ws.length ≤ 4000) (g : G) : s_run [bookD ws, rowD r, lotD lot] g = .ok (.tup ((ranGo ws lot 0 r).map triD)) g := by
  have hlen := hr.len
  simp [s_run, ir_run, runD, EI, ES, EV, EV2, EG, envOf, wipeE, endM, imm, imms_tri, after, check_run_ok ws r lot hr hl hin hn, ran_ok ws r lot hr.lt (by omega) hl.1, biO, one1, tupF]
/-! the law's own clock -/
theorem whl_none {c : Dv.Env → M Bool} {b : SM} {env : Dv.Env} {g g' : G} (h : c env g = .ok false g') : whlGo c b 1000000 env g = .ok (.nx env) g' := by
  show whlGo c b (999999 + 1) env g = _
  unfold whlGo onB
  rw [h]
  rfl
theorem whl_once {c : Dv.Env → M Bool} {b : SM} {env env' : Dv.Env} {g g' g2 g3 : G} (h : c env g = .ok true g') (h2 : b env g' = .ok (.nx env') g2) (h3 : c env' g2 = .ok false g3) : whlGo c b 1000000 env g = .ok (.nx env') g3 := by
  show whlGo c b (999999 + 1) env g = _
  unfold whlGo onB
  rw [h]
  simp only [if_true]
  rw [h2]
  show whlGo c b (999998 + 1) env' g2 = _
  unfold whlGo onB
  rw [h3]
  rfl
def ir_lw : SIs := (.cons (.set [3] (.one 4) (.idx (.idx (.var 0) (.var 5)) (.cst (.int 0)))) .nil)
def ir_lrb : SIs :=
 (.cons (.ifs (.cmp .IsNot (.idx (.var 2) (.var 5)) (.cst .non))
 (.cons (.whl 1000000 (.cmp .Lt (.var 4) (.idx (.idx (.var 0) (.var 5)) (.cst (.int 0)))) ir_lw)
 (.cons (.app [3] 3 (.tup (.cons (.var 5) (.cons (.var 4) (.cons (.bin .Add (.var 4) (.idx (.var 2) (.var 5))) .nil)))))
 (.cons (.set [3] (.one 4) (.bin .Add (.var 4) (.idx (.var 2) (.var 5))))
 .nil)))
 .nil)
 .nil)
theorem ir_law_run_eq : ir__law_run = (.cons (.own [3] 3 (.lst .nil))
 (.cons (.set [3] (.one 4) (.cst (.int 0)))
 (.cons (.for [3] (.one 5) (.seq (.var 1)) ir_lrb)
 (.cons (.ret [] (.var 3))
 .nil)))) := rfl
theorem ev_whl (m : Bool) (n : Nat) (c : IR) (b : SIs) : evS m (.whl n c b) = whlGo (ev c).t (evSs m b) n := rfl
theorem lrb_ok (ws : Ws) (lot : Lot) (hl : lot.length = ws.length) (w : Nat) (hw : w < ws.length) (x1 : Option (D × Bool)) (acc : List Tri) (hacc : acc.length ≤ 10000) (c : Int) (g : G) :
    evSs false ir_lrb [some (winsD ws, false), x1, some (lotD lot, false), some (.lst (acc.map triD), true), some (.int c, false), some (natD w, false)] g =
      .ok (.nx (match lenAt lot w with
        | none => [some (winsD ws, false), x1, some (lotD lot, false), some (.lst (acc.map triD), true), some (.int c, false), some (natD w, false)]
        | some l => [some (winsD ws, false), x1, some (lotD lot, false), some (.lst ((acc ++ [(w, max c (firstW ws w), max c (firstW ws w) + l)]).map triD), true), some (.int (max c (firstW ws w) + l), false), some (natD w, false)])) g := by
  have h1 := idx_lot lot w (by omega)
  have h2 : acc.length < sizeLine := Nat.lt_of_le_of_lt hacc (by rw [sizeLine_eq]; omega)
  have hn : natD w = .int (w : Nat) := rfl
  have hwd : idxO (winD ws[w]) (.int 0) = some (.int ws[w].1) := rfl
  rw [hn]
  cases ho : lenAt lot w with
  | none =>
    rw [ho] at h1
    simp [ir_lrb, EI, ES, EV, EV2, EG, h1, isnot_it, tru]
  | some l =>
    rw [ho] at h1
    have h1' : idxO (lotD lot) (.int (w : Nat)) = some (.int l) := h1
    rw [firstW_eq ws w hw]
    by_cases hc : c < ws[w].1
    · have hm : max c ws[w].1 = ws[w].1 := by omega
      have hwl : whlGo (truM (bind2 (cmpO .Lt) (getM 4) (bind2 idxO (bind2 idxO (getM 0) (getM 5)) fun _ => M.ret (.int 0)))) (evSs false ir_lw) 1000000 [some (winsD ws, false), x1, some (lotD lot, false), some (.lst (acc.map triD), true), some (.int c, false), some (.int (w : Nat), false)] g = .ok (.nx [some (winsD ws, false), x1, some (lotD lot, false), some (.lst (acc.map triD), true), some (.int ws[w].1, false), some (.int (w : Nat), false)]) g := by
        refine whl_once (g' := g) (g2 := g) ?_ ?_ ?_
        · simp [EG, idx_wins ws w hw, hwd, cmpO, cmpD, intCmp, tru, hc]
        · simp [ir_lw, EI, ES, EV, EG, wipeE, idx_wins ws w hw, hwd, imm, after, setTg]
        · simp [EG, idx_wins ws w hw, hwd, cmpO, cmpD, intCmp, tru]
      rw [hm]
      simp [ir_lrb, EI, ES, EV, EV2, EG, wipeE, h1', tru, cmpO, cmpD, isD, isNon, isCon, ev_whl, hwl, after, imm, imms, setTg, binO, addD, s_app, ownL, sz3, h2, triD]
    · have hm : max c ws[w].1 = c := by omega
      have hwl : whlGo (truM (bind2 (cmpO .Lt) (getM 4) (bind2 idxO (bind2 idxO (getM 0) (getM 5)) fun _ => M.ret (.int 0)))) (evSs false ir_lw) 1000000 [some (winsD ws, false), x1, some (lotD lot, false), some (.lst (acc.map triD), true), some (.int c, false), some (.int (w : Nat), false)] g = .ok (.nx [some (winsD ws, false), x1, some (lotD lot, false), some (.lst (acc.map triD), true), some (.int c, false), some (.int (w : Nat), false)]) g := by
        refine whl_none ?_
        simp [EG, idx_wins ws w hw, hwd, cmpO, cmpD, intCmp, tru]
        omega
      rw [hm]
      simp [ir_lrb, EI, ES, EV, EV2, EG, wipeE, h1', tru, cmpO, cmpD, isD, isNon, isCon, ev_whl, hwl, after, imm, imms, setTg, binO, addD, s_app, ownL, sz3, h2, triD]
theorem law_run_loop (ws : Ws) (lot : Lot) (hl : lot.length = ws.length) (x1 : Option (D × Bool)) (g : G) : ∀ (r : List Nat), (∀ k ∈ r, k < ws.length) → ∀ (acc : List Tri) (c : Int) (x5 : Option (D × Bool)), acc.length + r.length ≤ 10000 →
    ∃ (c' : Int) (x5' : Option (D × Bool)), forGo (.one 5) (evSs false ir_lrb) (r.map natD) [some (winsD ws, false), x1, some (lotD lot, false), some (.lst (acc.map triD), true), some (.int c, false), x5] g =
      .ok (.nx [some (winsD ws, false), x1, some (lotD lot, false), some (.lst ((acc ++ ranGo ws lot c r).map triD), true), some (.int c', false), x5']) g
  | [], _, acc, c, x5, _ => ⟨c, x5, by simp [forGo_nil, ranGo]⟩
  | w :: r, hr, acc, c, x5, hn => by
    have hb := lrb_ok ws lot hl w (hr w List.mem_cons_self) x1 acc (by omega) c g
    rw [List.map_cons, forGo_one]
    simp only [List.set_cons_succ, List.set_cons_zero]
    rw [hb]
    unfold ranGo
    cases ho : lenAt lot w with
    | none =>
      simp only
      exact law_run_loop ws lot hl x1 g r (fun k hk => hr k (List.mem_cons_of_mem _ hk)) acc c _ (by simp at hn; omega)
    | some l =>
      simp only
      obtain ⟨c', a, h⟩ := law_run_loop ws lot hl x1 g r (fun k hk => hr k (List.mem_cons_of_mem _ hk)) (acc ++ [(w, max c (firstW ws w), max c (firstW ws w) + l)]) (max c (firstW ws w) + l) (some (natD w, false)) (by simp at hn ⊢; omega)
      refine ⟨c', a, ?_⟩
      rw [h, List.append_assoc]
      rfl
theorem law_run_ok (ws : Ws) (r : List Nat) (lot : Lot) (hr : ∀ k ∈ r, k < ws.length) (hn : r.length ≤ 10000) (hl : lot.length = ws.length) (g : G) : s__law_run [winsD ws, rowD r, lotD lot] g = .ok (.lst ((ranGo ws lot 0 r).map triD)) g := by
  obtain ⟨c', x5', h⟩ := law_run_loop ws lot hl (some (rowD r, false)) g r hr [] 0 none (by simpa using hn)
  have hs : seqO (rowD r) = some (r.map natD) := rfl
  simp at h
  unfold s__law_run
  rw [ir_law_run_eq]
  simp [runD, EI, ES, EV, EV2, EG, envOf, wipeE, endM, imm, kids, imms, after, setTg, sz0, isRng, hs, frzE, h, imms_tri]
end Pm
end
section
set_option maxHeartbeats 1000000
/-! Pm5: plain data equal to itself; rows without those who are away; starts of laws. -/
namespace Pm
open PySem Dv Pg
/-- plain data, so deep at most -/
def Sh (k : Nat) (d : D) : Prop := ∃ p, toP d = some p ∧ p.canLay0 = true ∧ p.depth ≤ k
theorem Sh.int (i : Int) : Sh 0 (.int i) := ⟨_, rfl, rfl, by simp [PyData.depth]⟩
theorem Sh.bl (i : Bool) : Sh 0 (.bl i) := ⟨_, rfl, rfl, by simp [PyData.depth]⟩
theorem Sh.non : Sh 0 .non := ⟨_, rfl, rfl, by simp [PyData.depth]⟩
theorem Sh.mono {k m : Nat} {d : D} (h : Sh k d) (l : k ≤ m) : Sh m d := by
  obtain ⟨p, h1, h2, h3⟩ := h
  exact ⟨p, h1, h2, by omega⟩
theorem Sh.all {k : Nat} : ∀ {ds : List D}, (∀ d ∈ ds, Sh k d) → ∃ ps, toPs ds = some ps ∧ PyData.canLayAll0 ps = true ∧ PyData.depthAll ps ≤ k
  | [], _ => ⟨[], rfl, rfl, by simp [PyData.depthAll]⟩
  | d :: ds, h => by
    obtain ⟨p, h1, h2, h3⟩ := h d List.mem_cons_self
    obtain ⟨ps, h4, h5, h6⟩ := Sh.all fun e he => h e (List.mem_cons_of_mem _ he)
    refine ⟨p :: ps, ?_, ?_, ?_⟩
    · show (match toP d, toPs ds with | some p, some ps => some (p :: ps) | _, _ => none) = _
      rw [h1, h4]
    · show (p.canLay0 && PyData.canLayAll0 ps) = true
      rw [h2, h5]; rfl
    · simp only [PyData.depthAll]; omega
theorem Sh.tup {k : Nat} {ds : List D} (h : ∀ d ∈ ds, Sh k d) : Sh (k + 1) (.tup ds) := by
  obtain ⟨ps, h4, h5, h6⟩ := Sh.all h
  refine ⟨.tuple ps, ?_, ?_, ?_⟩
  · show (toPs ds).map PyData.tuple = _
    rw [h4]; rfl
  · unfold PyData.canLay0; exact h5
  · simp only [PyData.depth]; omega
theorem Sh.lst {k : Nat} {ds : List D} (h : ∀ d ∈ ds, Sh k d) : Sh (k + 1) (.lst ds) := by
  obtain ⟨ps, h4, h5, h6⟩ := Sh.all h
  refine ⟨.list ps, ?_, ?_, ?_⟩
  · show (toPs ds).map PyData.list = _
    rw [h4]; rfl
  · unfold PyData.canLay0; exact h5
  · simp only [PyData.depth]; omega
theorem Sh.shaped {k : Nat} {d : D} (h : Sh k d) (hk : k ≤ 64) : ∃ p, toP d = some p ∧ SeqAt.shaped p = true ∧ p.canLay0 = true := by
  obtain ⟨p, h1, h2, h3⟩ := h
  refine ⟨p, h1, ?_, h2⟩
  unfold SeqAt.shaped
  rw [h2, decide_eq_true (by omega)]; rfl
theorem eq_self {k : Nat} {d : D} (h : Sh k d) (hk : k ≤ 64) : eqD d d = some true := by
  obtain ⟨p, h1, h2, h3⟩ := h.shaped hk
  refine eqD_of ?_
  unfold eqP
  rw [h1]
  simp only
  rw [h2]
  simp only [Bool.and_self, if_true]
  rw [SeqAt.eqv_refl p h3]
theorem sh_tri (t : Tri) : Sh 1 (triD t) := Sh.tup fun d hd => by
  have : d = .int (t.1 : Nat) ∨ d = .int t.2.1 ∨ d = .int t.2.2 := by simpa using hd
  rcases this with rfl | rfl | rfl <;> exact Sh.int _
theorem eq_tris (ts : List Tri) : eqD (.tup (ts.map triD)) (.tup (ts.map triD)) = some true := by
  refine eq_self (k := 2) (Sh.tup fun d hd => ?_) (by omega)
  obtain ⟨t, _, rfl⟩ := List.mem_map.mp hd
  exact sh_tri t
/-! away -/
def isHere (lot : Lot) (w : Nat) : Bool := (lenAt lot w).isSome
theorem ran_here (ws : Ws) (lot : Lot) : ∀ (r : List Nat) (c : Int), ranGo ws lot c (r.filter (isHere lot)) = ranGo ws lot c r
  | [], _ => rfl
  | w :: r, c => by
    cases h : lenAt lot w with
    | none =>
      have : isHere lot w = false := by simp [isHere, h]
      rw [List.filter_cons_of_neg (by simp [this]), ran_here ws lot r c]
      simp [ranGo, h]
    | some l =>
      have : isHere lot w = true := by simp [isHere, h]
      rw [List.filter_cons_of_pos this]
      simp [ranGo, h, ran_here ws lot r]
theorem ran_away_l (ws : Ws) (lot : Lot) : ∀ (a r : List Nat) (c : Int), (∀ w ∈ a, isHere lot w = false) → ranGo ws lot c (a ++ r) = ranGo ws lot c r
  | [], _, _, _ => rfl
  | w :: a, r, c, h => by
    have h1 := h w List.mem_cons_self
    have : lenAt lot w = none := by simpa [isHere] using h1
    simp only [List.cons_append, ranGo, this]
    exact ran_away_l ws lot a r c fun x hx => h x (List.mem_cons_of_mem _ hx)
theorem ran_away_r (ws : Ws) (lot : Lot) : ∀ (r a : List Nat) (c : Int), (∀ w ∈ a, isHere lot w = false) → ranGo ws lot c (r ++ a) = ranGo ws lot c r
  | [], a, c, h => by
    have := ran_away_l ws lot a [] c h
    rw [List.append_nil] at this
    simpa [ranGo] using this
  | w :: r, a, c, h => by
    simp only [List.cons_append, ranGo]
    cases lenAt lot w with
    | none => exact ran_away_r ws lot r a c h
    | some l => simp only; rw [ran_away_r ws lot r a _ h]
/-! lots without anybody -/
theorem mul_none (n : Nat) (h1 : 1 ≤ n) (h2 : n ≤ 1000) : mulD (.tup [.non]) (.int (n : Nat)) = some (lotD (List.replicate n none)) := by
  unfold mulD
  simp only
  by_cases h : n = 1
  · subst h; rfl
  · rw [if_neg (by omega), cb_iff.mpr ⟨by simp, by omega, by omega, by simp⟩]
    simp only [if_true]
    congr 1
    unfold lotD
    congr 1
    have : ∀ m : Nat, (List.replicate m [D.non]).flatten = (List.replicate m (none : Option Int)).map itD := by
      intro m
      induction m with
      | zero => rfl
      | succ m ih =>
        rw [List.replicate_succ, List.replicate_succ, List.flatten_cons, ih]
        rfl
    rw [show ((n : Nat) : Int).toNat = n by omega, this]
theorem lot_none (n : Nat) : LotOk n (List.replicate n none) := ⟨by simp, fun z h => by simp at h⟩
theorem lotIn_none (n : Nat) (r : List Nat) : LotIn (List.replicate n none) r := fun i z h => by
  rw [List.getElem?_replicate] at h
  split at h <;> simp at h
theorem pow5 : powD (.int 10) (.int 5) = some (.int 100000) := pow_ok ⟨by omega, by omega, by omega⟩
theorem pow20 : powD (.int 10) (.int 20) = some (.int 100000000000000000000) := pow_ok ⟨by omega, by omega, by omega⟩
theorem pow15 : powD (.int 10) (.int 15) = some (.int 1000000000000000) := pow_ok ⟨by omega, by omega, by omega⟩
theorem tops3 (j : Int) (h0 : 0 ≤ j) (h1 : j < 3) : ∃ k : Int, idxO (.lst [.int 5, .int 12, .int 100000]) (.int j) = some (.int k) ∧ 0 ≤ k ∧ k ≤ 500000 := by
  have : j = 0 ∨ j = 1 ∨ j = 2 := by omega
  rcases this with rfl | rfl | rfl
  · exact ⟨5, rfl, by omega, by omega⟩
  · exact ⟨12, rfl, by omega, by omega⟩
  · exact ⟨100000, rfl, by omega, by omega⟩
theorem g_makeM (c n : Nat) (s : D → List D → G → RM) (fs : Dv.Env → M (List D)) (env : Dv.Env) (g : G) : makeM c n s fs env g = (match fs env g with | .ok ds g' => if ds.length = n then (match s (.obj c []) ds g' with | .ok r o g' => if noneD r = true then .ok o g' else .stuck | .err e _ g' => .err e g' | .stuck => .stuck) else .stuck | .err e g' => .err e g' | .stuck => .stuck) := by
  unfold makeM M.bind
  cases fs env g with
  | ok ds g' =>
    simp only
    split <;> rfl
  | _ => rfl
theorem imm_book (ws : Ws) : imm (bookD ws) = false := rfl
theorem LotFor.ok {n : Nat} {Q : Nat → Bool} {lot : Lot} (h : LotFor n Q lot) : LotOk n lot := by
  refine ⟨h.len, fun z hz => ?_⟩
  obtain ⟨i, hi⟩ := List.getElem?_of_mem hz
  have hlt : i < n := by
    have := (List.getElem?_eq_some_iff.mp hi).1
    rw [h.len] at this; exact this
  obtain ⟨y, h1, h2⟩ := h.at_ i hlt
  rw [hi] at h2
  cases hq : Q i with
  | true => rw [hq] at h2; cases h2; exact h1
  | false => rw [hq] at h2; cases h2
theorem LotFor.in_ {n : Nat} {Q : Nat → Bool} {lot : Lot} (h : LotFor n Q lot) {i : Nat} {z : Int} (hi : lot[i]? = some (some z)) : Q i = true := by
  have hlt : i < n := by
    have := (List.getElem?_eq_some_iff.mp hi).1
    rw [h.len] at this; exact this
  obtain ⟨y, h1, h2⟩ := h.at_ i hlt
  rw [hi] at h2
  cases hq : Q i with
  | true => rfl
  | false => rw [hq] at h2; cases h2
theorem rowOk_some {n : Nat} {s r : List Nat} (hs : s.Sublist (List.range n)) (hp : r.Perm s) : RowOk n r :=
  ⟨fun k hk => List.mem_range.mp (hs.subset (hp.mem_iff.mp hk)), hp.nodup_iff.mpr (hs.nodup List.nodup_range)⟩
theorem at_lt {lot : Lot} {i : Nat} {z : Int} (h : lot[i]? = some (some z)) : isHere lot i = true := by
  obtain ⟨h1, h2⟩ := List.getElem?_eq_some_iff.mp h
  simp [isHere, lenAt, h1, h2]
theorem here_at {lot : Lot} {i : Nat} (h : isHere lot i = true) : ∃ z, lot[i]? = some (some z) := by
  unfold isHere lenAt at h
  rw [List.getD_eq_getElem?_getD] at h
  cases hq : lot[i]? with
  | none => rw [hq] at h; simp at h
  | some o =>
    rw [hq] at h
    cases o with
    | none => simp at h
    | some z => exact ⟨z, rfl⟩
theorem s_put (m : Bool) (hd : List Nat) (i : Nat) (fk f : Dv.Env → M D) (env : Dv.Env) (g : G) : sPut m hd i fk f env g = (match f (wipeE env hd) g with
    | .ok d g' => (match after m hd (imm d) env with
      | some env' => (match ownL env' i with
        | none => .stuck
        | some _ => if imm d = true then (match fk (wipeE env' hd) g' with
          | .ok k g2 => (match after m hd (imm k) env' with
            | some env2 => (match asI k, ownL env2 i with
              | some z, some ds => (match L2.ixN ds.length z with
                | some j => .ok (.nx (env2.set i (some (.lst (ds.set j d), true)))) g2
                | none => .stuck)
              | _, _ => .stuck)
            | none => .stuck)
          | .err e g2 => errS e env' g2
          | .stuck => .stuck) else .stuck)
      | none => .stuck)
    | .err e g' => errS e env g'
    | .stuck => .stuck) := by
  unfold sPut onD
  cases f (wipeE env hd) g with
  | ok d g' => first
    | rfl
    | (simp only
       cases after m hd (imm d) env with
       | none => rfl
       | some env' =>
         simp only
         cases ownL env' i with
         | none => rfl
         | some ds =>
           simp only
           by_cases h : imm d = true
           · rw [if_pos h, if_pos h]; all_goals rfl
           · rw [if_neg h, if_neg h]; all_goals rfl)
  | _ => rfl
theorem ixN_nat {n w : Nat} (h : w < n) : L2.ixN n (w : Int) = some w := by
  unfold L2.ixN
  rw [if_pos (by omega), if_pos (by omega)]
  rfl
theorem LotOk.set {n : Nat} {lot : Lot} (h : LotOk n lot) (w : Nat) {z : Int} (hz : 0 ≤ z) : LotOk n (lot.set w (some z)) := by
  refine ⟨by rw [List.length_set]; exact h.1, fun y hy => ?_⟩
  rcases List.mem_or_eq_of_mem_set hy with h1 | h1
  · exact h.2 y h1
  · cases h1; exact hz
theorem LotIn.set {lot : Lot} {r : List Nat} (h : LotIn lot r) (w : Nat) (hw : w ∈ r) (o : Option Int) : LotIn (lot.set w o) r := fun i y hi => by
  by_cases e : w = i
  · rw [← e]; exact hw
  · rw [List.getElem?_set_ne e] at hi
    exact h i y hi
theorem map_set_it (lot : Lot) (w : Nat) (z : Int) : (lot.map itD).set w (.int z) = (lot.set w (some z)).map itD := by
  rw [List.map_set]; rfl
/-- those of a row that are drawn -/
theorem works_comp (m : Int) (h0 : 0 < m) (h1 : m < 2 ^ 128) (i6 i12 : Nat) (r : List Nat) (hn : r.length ≤ 1000) (env : Dv.Env) (h6 : env[i6]? = some (some (rowD r, false))) (hp : env[1]? = some (some (.pool, false))) (h12 : i12 ≠ 1) (hlt : i12 < env.length) (p : PSt) :
    ∃ (ws' : List Nat) (p' : PSt), ws'.Sublist r ∧ compM [i12] (.one i12) (seqM (getM i6)) (truM (bind2 (cmpO .Gt) (callM 2 s__law_draw (consM (getM 1) (consM (fun _ => M.ret (.int m)) nilM))) fun _ => M.ret (.int 0))) (getM i12) env (some p) = .ok (.lst (ws'.map natD)) (some p') := by
  obtain ⟨ys, p', hs, h2⟩ := compGo_draw (compStep [i12] (.one i12) env (truM (bind2 (cmpO .Gt) (callM 2 s__law_draw (consM (getM 1) (consM (fun _ => M.ret (.int m)) nilM))) fun _ => M.ret (.int 0))) (getM i12)) natD natD r (fun x _ q => by
    have dk := draw_ok q m h0 h1
    refine ⟨decide (0 < drawV q m), drawP q m, ?_⟩
    have e1 : ((wipeE env [i12]).set i12 (some (natD x, false)))[1]? = some (some (.pool, false)) := by
      rw [List.getElem?_set_ne h12]
      show ((wipeE env []).set i12 none)[1]? = _
      rw [List.getElem?_set_ne h12]
      exact hp
    have e2 : ((wipeE env [i12]).set i12 (some (natD x, false)))[i12]? = some (some (natD x, false)) := by
      rw [List.getElem?_set_self (by rw [wipeE_length]; exact hlt)]
    rw [g_step1]
    by_cases h : 0 < drawV q m <;>
    simp only [EG, e1, e2, List.length_cons, List.length_nil, dk, cmpO, cmpD, intCmp, tru, h, decide_true, decide_false, if_true, if_false, Option.map_some, Bool.false_eq_true]) p
  refine ⟨ys, p', hs, ?_⟩
  rw [g_compM]
  have hi : seqM (getM i6) env (some p) = .ok (r.map natD) (some p) := by
    simp [EG, h6, seqO, rowD]
  rw [hi]
  simp only [List.length_map]
  rw [if_pos (fits _ (by omega)), h2]
end Pm
end
section
set_option maxHeartbeats 1000000
/-! Pm6: lateness, serving, parts of lots. -/
namespace Pm
open PySem Dv Pg
def lates (ws : Ws) (ts : List Tri) : List Int := ts.map fun t => t.2.2 - lastW ws t.1
def lateV (ws : Ws) (lot : Lot) (r : List Nat) : Option Int := maxI (lates ws (ranGo ws lot 0 r))
def servesV (ws : Ws) (lot : Lot) (r : List Nat) : Bool := (ranGo ws lot 0 r).all fun t => decide (t.2.2 ≤ lastW ws t.1)
theorem maxI_none {l : List Int} : maxI l = none ↔ l = [] := by cases l <;> simp [maxI]
theorem maxI_some {l : List Int} {m : Int} (h : maxI l = some m) : m ∈ l ∧ ∀ y ∈ l, y ≤ m := by
  cases l with
  | nil => simp [maxI] at h
  | cons n r =>
    have e : r.foldl max n = m := by simpa [maxI] using h
    have := foldl_max r n
    rw [e] at this
    exact this
theorem maxF_map (xs : List Int) : maxF (xs.map D.int) = (maxI xs).map .int := by
  unfold maxF; rw [intsD_map]; rfl
theorem late_comp (ws : Ws) (ts : List Tri) (hts : ∀ t ∈ ts, t.1 < ws.length) (hn : ts.length ≤ 10000) (fi : Dv.Env → M (List D)) (env : Dv.Env) (x0 x1 x2 x3 x4 x5 x6 : Option (D × Bool)) (g : G)
    (hi : fi [some (bookD ws, false), x1, x2, x3, x4, x5, x6] g = .ok (ts.map triD) g) :
    compM [4, 5, 6] (.many [4, 5, 6]) fi yesT (bind2 (binO .Sub) (getM 6) (callM 2 s_last_of (consM (getM 0) (consM (getM 4) nilM)))) [some (bookD ws, false), x1, x2, x3, x4, x5, x6] g = .ok (.lst ((lates ws ts).map D.int)) g := by
  rw [g_compM, hi]
  simp only [List.length_map]
  rw [if_pos (fits _ (by omega)), compGo_all _ triD (fun t => .int (t.2.2 - lastW ws t.1)) g ts fun t ht => ?_]
  · unfold lates; rw [List.map_map]; rfl
  · unfold triD
    rw [g_stepM _ _ _ _ _ _ _ rfl]
    have h := hts t ht
    have e := last_of_ok ws t.1 h
    simp [EG, wipeE, setAll, e, binO, subD, lastW_eq ws t.1 h]
theorem len_ints (xs : List Int) : lenF (.lst (xs.map D.int)) = some (.int (xs.length : Nat)) := by unfold lenF; simp
theorem kids_ints (xs : List Int) : kids (.lst (xs.map D.int)) = true := by show imms _ = true; rw [imms_all]; simp [imm]
theorem lates_len (ws : Ws) (ts : List Tri) : (lates ws ts).length = ts.length := by simp [lates]
theorem imm_itD (o : Option Int) : imm (itD o) = true := by cases o <;> rfl
theorem late_of_ok (ws : Ws) (r : List Nat) (lot : Lot) (hr : ∀ k ∈ r, k < ws.length) (hn : r.length ≤ 10000) (hl : lot.length = ws.length) (g : G) : s_late_of [bookD ws, rowD r, lotD lot] g = .ok (itD (lateV ws lot r)) g := by
  have hran := ran_ok ws r lot hr hn hl
  have hts := ranGo_len ws lot r 0
  have hc := fun x3 x4 x5 x6 => late_comp ws (ranGo ws lot 0 r) (fun t ht => hr _ (ranGo_mem ws lot r 0 t ht)) (by omega) (seqM (callM 3 s_ran (consM (getM 0) (consM (getM 1) (consM (getM 2) nilM))))) [] none (some (rowD r, false)) (some (lotD lot, false)) x3 x4 x5 x6 g (by simp [EG, hran, seqO])
  have e1 := len_ints (lates ws (ranGo ws lot 0 r))
  have e2 := kids_ints (lates ws (ranGo ws lot 0 r))
  have e3 := maxF_map (lates ws (ranGo ws lot 0 r))
  have hlv : lateV ws lot r = maxI (lates ws (ranGo ws lot 0 r)) := rfl
  rw [hlv]
  cases hm : maxI (lates ws (ranGo ws lot 0 r)) with
  | none =>
    have h0 := maxI_none.mp hm
    rw [h0] at e1 e2 hc
    simp [s_late_of, ir_late_of, runD, EI, ES, EV, EV2, EG, envOf, wipeE, endM, imm, kids, imms, after, hc, biO, one1, lenF, cmpO, cmpD, intCmp, tru, itD]
  | some m =>
    have hne : 0 < (lates ws (ranGo ws lot 0 r)).length := List.length_pos_of_mem (maxI_some hm).1
    rw [hm] at e3
    simp [s_late_of, ir_late_of, runD, EI, ES, EV, EV2, EG, envOf, wipeE, endM, imm, after, hc, e1, e2, e3, biO, one1, onL, cmpO, cmpD, intCmp, tru, hne, itD]
theorem lateness_ok (ws : Ws) (r : List Nat) (lot : Lot) (hr : RowOk ws.length r) (hl : LotOk ws.length lot) (hin : LotIn lot r) (hn : ws.length ≤ 4000) (g : G) : s_lateness [bookD ws, rowD r, lotD lot] g = .ok (itD (lateV ws lot r)) g := by
  have hlen := hr.len
  simp [s_lateness, ir_lateness, runD, EI, ES, EV, EV2, EG, envOf, wipeE, endM, imm, imm_itD, after, check_run_ok ws r lot hr hl hin hn, late_of_ok ws r lot hr.lt (by omega) hl.1]
theorem law_late_comp (ws : Ws) (ts : List Tri) (hts : ∀ t ∈ ts, t.1 < ws.length) (hn : ts.length ≤ 10000) (fi : Dv.Env → M (List D)) (x1 x2 x3 x4 x5 x6 : Option (D × Bool)) (g : G)
    (hi : fi [some (winsD ws, false), x1, x2, x3, x4, x5, x6] g = .ok (ts.map triD) g) :
    compM [4, 5, 6] (.many [4, 5, 6]) fi yesT (bind2 (binO .Sub) (getM 6) (bind2 idxO (bind2 idxO (getM 0) (getM 4)) fun _ => M.ret (.int 1))) [some (winsD ws, false), x1, x2, x3, x4, x5, x6] g = .ok (.lst ((lates ws ts).map D.int)) g := by
  rw [g_compM, hi]
  simp only [List.length_map]
  rw [if_pos (fits _ (by omega)), compGo_all _ triD (fun t => .int (t.2.2 - lastW ws t.1)) g ts fun t ht => ?_]
  · unfold lates; rw [List.map_map]; rfl
  · unfold triD
    rw [g_stepM _ _ _ _ _ _ _ rfl]
    have h := hts t ht
    have e := idx_wins ws t.1 h
    have e1 : idxO (winD ws[t.1]) (.int 1) = some (.int ws[t.1].2) := rfl
    simp [EG, wipeE, setAll, e, e1, binO, subD, lastW_eq ws t.1 h]
theorem law_lateness_ok (ws : Ws) (r : List Nat) (lot : Lot) (hr : ∀ k ∈ r, k < ws.length) (hn : r.length ≤ 10000) (hl : lot.length = ws.length) (g : G) : s__law_lateness [winsD ws, rowD r, lotD lot] g = .ok (itD (lateV ws lot r)) g := by
  have hran := law_run_ok ws r lot hr hn hl
  have hts := ranGo_len ws lot r 0
  have hc := fun x3 x4 x5 x6 => law_late_comp ws (ranGo ws lot 0 r) (fun t ht => hr _ (ranGo_mem ws lot r 0 t ht)) (by omega) (seqM (callM 3 s__law_run (consM (getM 0) (consM (getM 1) (consM (getM 2) nilM))))) (some (rowD r, false)) (some (lotD lot, false)) x3 x4 x5 x6 g (by simp [EG, hran, seqO])
  have e1 := len_ints (lates ws (ranGo ws lot 0 r))
  have e2 := kids_ints (lates ws (ranGo ws lot 0 r))
  have e3 := maxF_map (lates ws (ranGo ws lot 0 r))
  have hlv : lateV ws lot r = maxI (lates ws (ranGo ws lot 0 r)) := rfl
  rw [hlv]
  cases hm : maxI (lates ws (ranGo ws lot 0 r)) with
  | none =>
    have h0 := maxI_none.mp hm
    rw [h0] at e1 e2 hc
    simp [s__law_lateness, ir__law_lateness, runD, EI, ES, EV, EV2, EG, envOf, wipeE, endM, imm, kids, imms, after, hc, biO, one1, lenF, cmpO, cmpD, intCmp, tru, itD]
  | some m =>
    have hne : 0 < (lates ws (ranGo ws lot 0 r)).length := List.length_pos_of_mem (maxI_some hm).1
    rw [hm] at e3
    simp [s__law_lateness, ir__law_lateness, runD, EI, ES, EV, EV2, EG, envOf, wipeE, endM, imm, after, hc, e1, e2, e3, biO, one1, onL, cmpO, cmpD, intCmp, tru, hne, itD]
theorem serves_comp (ws : Ws) (ts : List Tri) (hts : ∀ t ∈ ts, t.1 < ws.length) (hn : ts.length ≤ 10000) (fi : Dv.Env → M (List D)) (x1 x2 x3 x4 x5 : Option (D × Bool)) (g : G)
    (hi : fi [some (bookD ws, false), x1, x2, x3, x4, x5] g = .ok (ts.map triD) g) :
    compM [3, 4, 5] (.many [3, 4, 5]) fi yesT (bind2 (cmpO .LtE) (getM 5) (callM 2 s_last_of (consM (getM 0) (consM (getM 3) nilM)))) [some (bookD ws, false), x1, x2, x3, x4, x5] g = .ok (.lst (ts.map fun t => .bl (decide (t.2.2 ≤ lastW ws t.1)))) g := by
  rw [g_compM, hi]
  simp only [List.length_map]
  rw [if_pos (fits _ (by omega)), compGo_all _ triD (fun t => .bl (decide (t.2.2 ≤ lastW ws t.1))) g ts fun t ht => ?_]
  unfold triD
  rw [g_stepM _ _ _ _ _ _ _ rfl]
  have h := hts t ht
  have e := last_of_ok ws t.1 h
  simp [EG, wipeE, setAll, e, cmpO, cmpD, intCmp, lastW_eq ws t.1 h]
theorem serves_lot_ok (ws : Ws) (r : List Nat) (lot : Lot) (hr : ∀ k ∈ r, k < ws.length) (hn : r.length ≤ 10000) (hl : lot.length = ws.length) (g : G) : s_serves_lot [bookD ws, rowD r, lotD lot] g = .ok (.bl (servesV ws lot r)) g := by
  have hran := ran_ok ws r lot hr hn hl
  have hts := ranGo_len ws lot r 0
  have hc := fun x3 x4 x5 => serves_comp ws (ranGo ws lot 0 r) (fun t ht => hr _ (ranGo_mem ws lot r 0 t ht)) (by omega) (seqM (callM 3 s_ran (consM (getM 0) (consM (getM 1) (consM (getM 2) nilM))))) (some (rowD r, false)) (some (lotD lot, false)) x3 x4 x5 g (by simp [EG, hran, seqO])
  have e1 : allF ((ranGo ws lot 0 r).map fun t => D.bl (decide (t.2.2 ≤ lastW ws t.1))) = some (.bl (servesV ws lot r)) := by
    unfold allF servesV
    rw [boolsD_map]
    simp [List.all_map, Function.comp_def]
  simp [s_serves_lot, ir_serves_lot, runD, EI, ES, EV, EV2, EG, envOf, wipeE, endM, imm, after, hc, biO, one1, onL, e1]
theorem serves_ok (ws : Ws) (r : List Nat) (lot : Lot) (hr : RowOk ws.length r) (hl : LotOk ws.length lot) (hin : LotIn lot r) (hn : ws.length ≤ 4000) (g : G) : s_serves [bookD ws, rowD r, lotD lot] g = .ok (.bl (servesV ws lot r)) g := by
  have hlen := hr.len
  simp [s_serves, ir_serves, runD, EI, ES, EV, EV2, EG, envOf, wipeE, endM, imm, after, check_run_ok ws r lot hr hl hin hn, serves_lot_ok ws r lot hr.lt (by omega) hl.1]
theorem eqD_bl (a b : Bool) : eqD (.bl a) (.bl b) = some (a == b) := by cases a <;> cases b <;> rfl
theorem law_flag_ok (a b : Bool) (g : G) : s__law_flag [.bl a, .bl b] g = .ok (.bl (a == b)) g := by
  have e : isiF [.bl a, .con (.ty "bool")] = some (.bl true) := rfl
  simp [s__law_flag, ir__law_flag, runD, EI, ES, EV, EV2, EG, envOf, wipeE, endM, imm, after, e, tru, cmpO, cmpD, eqD_bl]
/-- serving by lateness -/
theorem serves_late (ws : Ws) (lot : Lot) (r : List Nat) : servesV ws lot r = (match lateV ws lot r with | none => true | some m => decide (m ≤ 0)) := by
  unfold servesV lateV
  rw [Bool.eq_iff_iff, List.all_eq_true]
  cases hm : maxI (lates ws (ranGo ws lot 0 r)) with
  | none =>
    have h0 := maxI_none.mp hm
    have : ranGo ws lot 0 r = [] := by
      have := congrArg List.length h0
      rw [lates_len] at this
      exact List.eq_nil_of_length_eq_zero this
    rw [this]; simp
  | some m =>
    obtain ⟨h1, h2⟩ := maxI_some hm
    simp only [decide_eq_true_eq]
    constructor
    · intro h
      obtain ⟨t, ht, e⟩ := List.mem_map.mp h1
      have := h t ht
      omega
    · intro h t ht
      have := h2 (t.2.2 - lastW ws t.1) (List.mem_map.mpr ⟨t, ht, rfl⟩)
      omega
/-! longer lengths are later -/
/-- l1 has nobody more than l2, all shorter by d at least -/
def Less (d : Int) (l1 l2 : Lot) (r : List Nat) : Prop := ∀ w ∈ r, lenAt l1 w = none ∨ ∃ a b, lenAt l1 w = some a ∧ lenAt l2 w = some b ∧ a + d ≤ b
theorem ran_less (ws : Ws) (d : Int) (hd : 0 ≤ d) (l1 l2 : Lot) (h2 : ∀ w b, lenAt l2 w = some b → 0 ≤ b) : ∀ (r : List Nat) (c1 c2 : Int), c1 ≤ c2 → Less d l1 l2 r → ∀ t ∈ ranGo ws l1 c1 r, ∃ t' ∈ ranGo ws l2 c2 r, t'.1 = t.1 ∧ t.2.2 + d ≤ t'.2.2
  | [], _, _, _, _, t, ht => by cases ht
  | w :: r, c1, c2, hc, hl, t, ht => by
    have hl' : Less d l1 l2 r := fun x hx => hl x (List.mem_cons_of_mem _ hx)
    rcases hl w List.mem_cons_self with h | ⟨a, b, ha, hb, hab⟩
    · simp only [ranGo, h] at ht
      cases hb : lenAt l2 w with
      | none =>
        obtain ⟨t', h3, h4⟩ := ran_less ws d hd l1 l2 h2 r c1 c2 hc hl' t ht
        exact ⟨t', by simpa [ranGo, hb] using h3, h4⟩
      | some b =>
        have := h2 w b hb
        obtain ⟨t', h3, h4⟩ := ran_less ws d hd l1 l2 h2 r c1 (max c2 (firstW ws w) + b) (by omega) hl' t ht
        refine ⟨t', ?_, h4⟩
        simp only [ranGo, hb]
        exact List.mem_cons_of_mem _ h3
    · simp only [ranGo, ha] at ht
      simp only [ranGo, hb]
      rcases List.mem_cons.mp ht with rfl | ht
      · refine ⟨_, List.mem_cons_self, rfl, ?_⟩
        simp only
        omega
      · obtain ⟨t', h3, h4⟩ := ran_less ws d hd l1 l2 h2 r (max c1 (firstW ws w) + a) (max c2 (firstW ws w) + b) (by omega) hl' t ht
        exact ⟨t', List.mem_cons_of_mem _ h3, h4⟩
theorem late_less (ws : Ws) (d : Int) (hd : 0 ≤ d) (l1 l2 : Lot) (h2 : ∀ w b, lenAt l2 w = some b → 0 ≤ b) (r : List Nat) (hl : Less d l1 l2 r) {m1 : Int} (h1 : lateV ws l1 r = some m1) : ∃ m2, lateV ws l2 r = some m2 ∧ m1 + d ≤ m2 := by
  obtain ⟨a1, _⟩ := maxI_some (show maxI (lates ws (ranGo ws l1 0 r)) = some m1 from h1)
  obtain ⟨t, ht, e⟩ := List.mem_map.mp a1
  obtain ⟨t', h3, h4, h5⟩ := ran_less ws d hd l1 l2 h2 r 0 0 (Int.le_refl 0) hl t ht
  have hm : (t'.2.2 - lastW ws t'.1) ∈ lates ws (ranGo ws l2 0 r) := List.mem_map.mpr ⟨t', h3, rfl⟩
  cases hq : lateV ws l2 r with
  | none =>
    rw [maxI_none.mp (show maxI (lates ws (ranGo ws l2 0 r)) = none from hq)] at hm
    cases hm
  | some m2 =>
    obtain ⟨_, b2⟩ := maxI_some (show maxI (lates ws (ranGo ws l2 0 r)) = some m2 from hq)
    have := b2 _ hm
    rw [h4] at this
    exact ⟨m2, rfl, by omega⟩
theorem ran_nil_iff (ws : Ws) (l1 l2 : Lot) : ∀ (r : List Nat) (c1 c2 : Int), (∀ w ∈ r, (lenAt l1 w).isSome = (lenAt l2 w).isSome) → ((ranGo ws l1 c1 r).length = (ranGo ws l2 c2 r).length)
  | [], _, _, _ => rfl
  | w :: r, c1, c2, h => by
    have ih := fun c1 c2 => ran_nil_iff ws l1 l2 r c1 c2 fun x hx => h x (List.mem_cons_of_mem _ hx)
    have hw := h w List.mem_cons_self
    simp only [ranGo]
    cases h1 : lenAt l1 w with
    | none =>
      cases h2 : lenAt l2 w with
      | none => exact ih c1 c2
      | some b => rw [h1, h2] at hw; cases hw
    | some a =>
      cases h2 : lenAt l2 w with
      | none => rw [h1, h2] at hw; cases hw
      | some b =>
        simp only [List.length_cons]
        rw [ih]
theorem late_some (ws : Ws) (l1 l2 : Lot) (r : List Nat) (h : ∀ w ∈ r, (lenAt l1 w).isSome = (lenAt l2 w).isSome) : (lateV ws l1 r).isSome = (lateV ws l2 r).isSome := by
  have hl := ran_nil_iff ws l1 l2 r 0 0 h
  have key : ∀ l : Lot, (lateV ws l r).isSome = decide ((ranGo ws l 0 r).length ≠ 0) := fun l => by
    unfold lateV
    cases hq : ranGo ws l 0 r with
    | nil => rfl
    | cons t ts => simp [lates, maxI]
  rw [key, key, hl]
/-! cut and joined -/
theorem sIx_to (n i : Nat) (h : i ≤ n) : HT.sIx n n (some (i : Int)) = i ∧ HT.sIx n 0 (some (i : Int)) = i := by
  rw [HT.sIx_nat, HT.sIx_nat]
  omega
theorem cut_to {α : Type} (xs : List α) (i : Nat) (h : i ≤ xs.length) : cutL xs none (some (i : Int)) = xs.take i := by
  unfold cutL
  rw [(sIx_to xs.length i h).1]
  have : HT.sIx xs.length 0 none = 0 := rfl
  rw [this]
  simp
theorem cut_from {α : Type} (xs : List α) (i : Nat) (h : i ≤ xs.length) : cutL xs (some (i : Int)) none = xs.drop i := by
  unfold cutL
  rw [(sIx_to xs.length i h).2]
  have : HT.sIx xs.length xs.length none = xs.length := rfl
  rw [this]
  rw [List.take_of_length_le (by simp)]
theorem take_set_drop {α : Type} : ∀ (xs : List α) (i : Nat) (y : α), i < xs.length → xs.take i ++ y :: xs.drop (i + 1) = xs.set i y
  | _ :: _, 0, _, _ => rfl
  | x :: r, i + 1, y, h => by
    show x :: (r.take i ++ y :: r.drop (i + 1)) = x :: r.set i y
    rw [take_set_drop r i y (by simpa using h)]
theorem add_int (i j : Int) : addD (.int i) (.int j) = some (.int (i + j)) := rfl
end Pm
end
section
set_option maxHeartbeats 1000000
/-! Pm7: broken stretches. -/
namespace Pm
open PySem Dv Pg
def lenV (lot : Lot) (w : Nat) : Int := (lenAt lot w).getD 0
/-- ends and loads from here on -/
def presG (lot : Lot) : Int → List Nat → List (Nat × Int)
  | _, [] => []
  | a, x :: r => (x, a + lenV lot x) :: presG lot (a + lenV lot x) r
/-- all stretches: begin, end, load -/
def stre (lot : Lot) : List Nat → List (Nat × Nat × Int)
  | [] => []
  | w :: r => ((presG lot 0 (w :: r)).map fun q => (w, q.1, q.2)) ++ stre lot r
def brkF (ws : Ws) (q : Nat × Nat × Int) : Bool := decide (lastW ws q.2.1 < firstW ws q.1 + q.2.2)
def brkP (ws : Ws) (s : List (Nat × Nat × Int)) : List (Int × Int) := (s.filter (brkF ws)).map fun q => ((q.1 : Nat), (q.2.1 : Nat))
theorem brkP_app (ws : Ws) (a b : List (Nat × Nat × Int)) : brkP ws (a ++ b) = brkP ws a ++ brkP ws b := by
  unfold brkP; rw [List.filter_append, List.map_append]
theorem presG_len (lot : Lot) : ∀ (r : List Nat) (a : Int), (presG lot a r).length = r.length
  | [], _ => rfl
  | x :: r, a => by simp [presG, presG_len lot r]
theorem brkP_len (ws : Ws) (s : List (Nat × Nat × Int)) : (brkP ws s).length ≤ s.length := by
  unfold brkP; rw [List.length_map]; exact List.length_filter_le _ _
/-- the inner body -/
def ir_bi : SIs :=
 (.cons (.set [3, 4] (.one 7) (.bin .Add (.var 7) (.idx (.var 2) (.var 8))))
 (.cons (.ifs (.cmp .Gt (.bin .Add (.call "first_of" 2 Pg.s_first_of (.cons (.var 0) (.cons (.var 6) .nil))) (.var 7)) (.call "last_of" 2 Pg.s_last_of (.cons (.var 0) (.cons (.var 8) .nil))))
 (.cons (.app [3, 4] 4 (.tup (.cons (.var 6) (.cons (.var 8) .nil))))
 .nil)
 .nil)
 .nil))
def ir_bo : SIs :=
 (.cons (.set [3, 4] (.one 7) (.cst (.int 0)))
 (.cons (.for [4] (.one 8) (.seq (.slc (.var 3) (.var 5) .nop)) ir_bi)
 .nil))
theorem ir_bs_eq : ir_broken_stretches = (.cons (.own [3, 4] 3 (.comp [("work", 9)] (.one 9) (.seq (.var 1)) (.cmp .IsNot (.idx (.var 2) (.var 9)) (.cst .non)) (.var 9)))
 (.cons (.own [3, 4] 4 (.lst .nil))
 (.cons (.for [4] (.many [5, 6]) (.enum (.var 3)) ir_bo)
 (.cons (.ret [3] (.bi .sorted (.cons (.var 4) .nil)))
 .nil)))) := rfl
theorem prD_nat (a b : Nat) : prD ((a : Nat), (b : Nat)) = .tup [.int (a : Nat), .int (b : Nat)] := rfl
theorem imms_pr (l : List (Int × Int)) : imms (l.map prD) = true := by rw [imms_all]; simp [prD, imm, imms]
theorem bi_ok (ws : Ws) (lot : Lot) (hl : lot.length = ws.length) (w x : Nat) (hw : w < ws.length) (hx : x < ws.length) (hxh : isHere lot x = true) (acc : List (Int × Int)) (hacc : acc.length ≤ 100000) (a : Int) (x1 x3 x5 x9 : Option (D × Bool)) (g : G) :
    evSs false ir_bi [some (bookD ws, false), x1, some (lotD lot, false), x3, some (.lst (acc.map prD), true), x5, some (natD w, false), some (.int a, false), some (natD x, false), x9] g =
      .ok (.nx [some (bookD ws, false), x1, some (lotD lot, false), x3, some (.lst ((acc ++ brkP ws [(w, x, a + lenV lot x)]).map prD), true), x5, some (natD w, false), some (.int (a + lenV lot x), false), some (natD x, false), x9]) g := by
  obtain ⟨l, hlx⟩ := Option.isSome_iff_exists.mp hxh
  have hv : lenV lot x = l := by unfold lenV; rw [hlx]; rfl
  have h1 := idx_lot lot x (by omega)
  rw [hlx] at h1
  have h1' : idxO (lotD lot) (.int (x : Nat)) = some (.int l) := h1
  have h2 : acc.length < sizeLine := Nat.lt_of_le_of_lt hacc (by rw [sizeLine_eq]; omega)
  have e1 : natD w = .int (w : Nat) := rfl
  have e2 : natD x = .int (x : Nat) := rfl
  rw [hv, e1, e2]
  by_cases hb : ws[x].2 < ws[w].1 + (a + l)
  · have : brkP ws [(w, x, a + l)] = [((w : Int), (x : Int))] := by simp [brkP, brkF, firstW_eq ws w hw, lastW_eq ws x hx, hb]
    rw [this]
    simp [ir_bi, EI, ES, EV, EV2, EG, wipeE, after, setTg, imm, imms, binO, add_int, h1', first_of_ok ws w hw, last_of_ok ws x hx, cmpO, cmpD, intCmp, tru, hb, s_app, ownL, sz2, h2, prD]
  · have : brkP ws [(w, x, a + l)] = [] := by simp [brkP, brkF, firstW_eq ws w hw, lastW_eq ws x hx, hb]
    rw [this]
    simp [ir_bi, EI, ES, EV, EV2, EG, wipeE, after, setTg, imm, imms, binO, add_int, h1', first_of_ok ws w hw, last_of_ok ws x hx, cmpO, cmpD, intCmp, tru, hb]
theorem bi_loop (ws : Ws) (lot : Lot) (hl : lot.length = ws.length) (w : Nat) (hw : w < ws.length) (x1 x3 x5 x9 : Option (D × Bool)) (g : G) : ∀ (r : List Nat), (∀ k ∈ r, k < ws.length ∧ isHere lot k = true) → ∀ (acc : List (Int × Int)) (a : Int) (x8 : Option (D × Bool)), acc.length + r.length ≤ 100000 →
    ∃ (a' : Int) (x8' : Option (D × Bool)), forGo (.one 8) (evSs false ir_bi) (r.map natD) [some (bookD ws, false), x1, some (lotD lot, false), x3, some (.lst (acc.map prD), true), x5, some (natD w, false), some (.int a, false), x8, x9] g =
      .ok (.nx [some (bookD ws, false), x1, some (lotD lot, false), x3, some (.lst ((acc ++ brkP ws ((presG lot a r).map fun q => (w, q.1, q.2))).map prD), true), x5, some (natD w, false), some (.int a', false), x8', x9]) g
  | [], _, acc, a, x8, _ => ⟨a, x8, by simp [forGo_nil, presG, brkP]⟩
  | x :: r, hr, acc, a, x8, hn => by
    obtain ⟨hx, hxh⟩ := hr x List.mem_cons_self
    have hb := bi_ok ws lot hl w x hw hx hxh acc (by omega) a x1 x3 x5 x9 g
    have hbl := brkP_len ws [(w, x, a + lenV lot x)]
    obtain ⟨a', y8, h⟩ := bi_loop ws lot hl w hw x1 x3 x5 x9 g r (fun k hk => hr k (List.mem_cons_of_mem _ hk)) (acc ++ brkP ws [(w, x, a + lenV lot x)]) (a + lenV lot x) (some (natD x, false)) (by simp at hn hbl ⊢; omega)
    refine ⟨a', y8, ?_⟩
    rw [List.map_cons, forGo_one]
    simp only [List.set_cons_succ, List.set_cons_zero]
    rw [hb]
    simp only
    rw [h, List.append_assoc, ← brkP_app]
    rfl
theorem stre_len (lot : Lot) : ∀ r : List Nat, (stre lot r).length ≤ r.length * r.length
  | [] => by simp [stre]
  | w :: r => by
    have := stre_len lot r
    simp only [stre, List.length_append, List.length_map, presG_len, List.length_cons]
    have : (r.length + 1) * (r.length + 1) = r.length * r.length + 2 * r.length + 1 := by
      rw [Nat.add_mul, Nat.mul_add]; omega
    omega
theorem slc_rows (pr : List Nat) (k : Nat) (h : k ≤ pr.length) : slcO (lrowD pr) (some (k : Int)) none = some (lrowD (pr.drop k)) := by
  unfold lrowD slcO
  simp only
  rw [cutL_map, cut_from pr k h]
theorem bo_loop (ws : Ws) (lot : Lot) (hl : lot.length = ws.length) (pr : List Nat) (hpr : ∀ k ∈ pr, k < ws.length ∧ isHere lot k = true) (hpn : pr.length ≤ 100) (d1 : D) (g : G) : ∀ (suf : List Nat) (k : Nat), pr.drop k = suf → k + suf.length = pr.length → ∀ (acc : List (Int × Int)) (x5 x6 x7 x8 : Option (D × Bool)), acc.length + suf.length * suf.length ≤ 50000 →
    ∃ (y5 y6 y7 y8 : Option (D × Bool)), forGo (.many [5, 6]) (evSs false ir_bo) (enumD k (suf.map natD)) [some (bookD ws, false), some (d1, false), some (lotD lot, false), some (lrowD pr, false), some (.lst (acc.map prD), true), x5, x6, x7, x8, none] g =
      .ok (.nx [some (bookD ws, false), some (d1, false), some (lotD lot, false), some (lrowD pr, false), some (.lst ((acc ++ brkP ws (stre lot suf)).map prD), true), y5, y6, y7, y8, none]) g
  | [], k, _, _, acc, x5, x6, x7, x8, _ => ⟨x5, x6, x7, x8, by simp [forGo_nil, stre, brkP, enumD]⟩
  | w :: r, k, hd, hk, acc, x5, x6, x7, x8, hn => by
    have hkl : k < pr.length := by simp at hk; omega
    have hdr : pr.drop (k + 1) = r := by
      have := congrArg List.tail hd
      rw [List.tail_drop] at this
      exact this
    have hmem : ∀ q ∈ w :: r, q < ws.length ∧ isHere lot q = true := fun q hq => hpr q (by
      rw [← hd] at hq
      exact List.mem_of_mem_drop hq)
    have hs := slc_rows pr k (by omega)
    rw [hd] at hs
    have hsq : seqO (lrowD (w :: r)) = some ((w :: r).map natD) := rfl
    have hsz : (w :: r).length ≤ 100 := by
      have : (w :: r).length + k = pr.length := by omega
      omega
    obtain ⟨a', y8, hb⟩ := bi_loop ws lot hl w (hmem w List.mem_cons_self).1 (some (d1, false)) (some (lrowD pr, false)) (some (.int (k : Nat), false)) none g (w :: r) hmem acc 0 (x8.map fun p => (p.1, false)) (by omega)
    have hq : ((w :: r).length) * (w :: r).length = r.length * r.length + 2 * r.length + 1 := by
      simp only [List.length_cons]
      rw [Nat.add_mul, Nat.mul_add]; omega
    have hbl := brkP_len ws ((presG lot 0 (w :: r)).map fun q => (w, q.1, q.2))
    rw [List.length_map, presG_len] at hbl
    obtain ⟨y5, y6, y7, y8', ih⟩ := bo_loop ws lot hl pr hpr hpn d1 g r (k + 1) hdr (by simp at hk; omega) (acc ++ brkP ws ((presG lot 0 (w :: r)).map fun q => (w, q.1, q.2))) (some (.int (k : Nat), false)) (some (natD w, false)) (some (.int a', false)) y8 (by
      rw [List.length_append]
      simp only [List.length_cons] at hbl hq hn ⊢
      omega)
    refine ⟨y5, y6, y7, y8', ?_⟩
    rw [List.map_cons]
    unfold enumD
    rw [forGo_many _ _ _ _ _ _ rfl]
    have hbody : evSs false ir_bo [some (bookD ws, false), some (d1, false), some (lotD lot, false), some (lrowD pr, false), some (.lst (acc.map prD), true), some (.int (k : Nat), false), some (natD w, false), x7, x8, none] g =
        .ok (.nx [some (bookD ws, false), some (d1, false), some (lotD lot, false), some (lrowD pr, false), some (.lst ((acc ++ brkP ws ((presG lot 0 (w :: r)).map fun q => (w, q.1, q.2))).map prD), true), some (.int (k : Nat), false), some (natD w, false), some (.int a', false), y8, none]) g := by
      simp only [List.map_cons, List.map_append] at hb hsq
      simp [ir_bo, EI, ES, EV, EV2, EG, wipeE, after, setTg, imm, isRng, hs, hsq, asI, frzE, hb]
    simp only [setAll, List.set_cons_succ, List.set_cons_zero]
    rw [hbody]
    simp only
    rw [ih, List.append_assoc, ← brkP_app]
    rfl
theorem pairsD_map : ∀ l : List (Int × Int), pairsD (l.map prD) = some l
  | [] => rfl
  | p :: r => by
    show (match pairD (prD p), pairsD (r.map prD) with | some p, some ps => some (p :: ps) | _, _ => none) = _
    rw [pairsD_map r]
    rfl
theorem sortF_pr (l : List (Int × Int)) : sortF (l.map prD) = some (.lst ((sortP l).map prD)) := by
  unfold sortF
  cases l with
  | nil => rfl
  | cons p r =>
    have : intsD ((p :: r).map prD) = none := rfl
    rw [this]
    simp only
    rw [pairsD_map]
theorem pres_comp (lot : Lot) (r : List Nat) (hr : ∀ k ∈ r, k < lot.length) (hn : r.length ≤ 1000) (x0 x3 x4 x5 x6 x7 x8 x9 : Option (D × Bool)) (g : G) :
    compM [9] (.one 9) (seqM (getM 1)) (truM (bind2 (cmpO .IsNot) (bind2 idxO (getM 2) (getM 9)) fun _ => M.ret .non)) (getM 9)
      [x0, some (rowD r, false), some (lotD lot, false), x3, x4, x5, x6, x7, x8, x9] g = .ok (lrowD (r.filter (isHere lot))) g := by
  rw [g_compM]
  have h1 : seqM (getM 1) [x0, some (rowD r, false), some (lotD lot, false), x3, x4, x5, x6, x7, x8, x9] g = .ok (r.map natD) g := by simp [EG, seqO, rowD]
  rw [h1]
  simp only [List.length_map]
  rw [if_pos (fits _ (by omega)), compGo_map _ natD (isHere lot) natD g r fun k hk => ?_]
  · rfl
  have e1 : idxO (lotD lot) (natD k) = some (itD (lenAt lot k)) := idx_lot lot k (hr k hk)
  rw [g_step1]
  cases ho : lenAt lot k with
  | none => simp [EG, wipeE, e1, isnot_it, tru, ho, isHere]
  | some l => simp [EG, wipeE, e1, isnot_it, tru, ho, isHere]
def brokenL (ws : Ws) (lot : Lot) (r : List Nat) : List (Int × Int) := sortP (brkP ws (stre lot (r.filter (isHere lot))))
theorem bs_ok (ws : Ws) (r : List Nat) (lot : Lot) (hr : ∀ k ∈ r, k < ws.length) (hn : r.length ≤ 100) (hl : lot.length = ws.length) (g : G) : s_broken_stretches [bookD ws, rowD r, lotD lot] g = .ok (.lst ((brokenL ws lot r).map prD)) g := by
  have hpl : (r.filter (isHere lot)).length ≤ r.length := List.length_filter_le _ _
  have hpr : ∀ k ∈ r.filter (isHere lot), k < ws.length ∧ isHere lot k = true := fun k hk => ⟨hr k (List.mem_filter.mp hk).1, (List.mem_filter.mp hk).2⟩
  have hsq : (r.filter (isHere lot)).length * (r.filter (isHere lot)).length ≤ 100 * 100 := Nat.mul_le_mul (by omega) (by omega)
  obtain ⟨y5, y6, y7, y8, h⟩ := bo_loop ws lot hl (r.filter (isHere lot)) hpr (by omega) (rowD r) g (r.filter (isHere lot)) 0 rfl (by omega) [] none none none none (by simp; omega)
  have hc := fun x3 x4 x5 x6 x7 x8 x9 g => pres_comp lot r (by rw [hl]; exact hr) (by omega) (some (bookD ws, false)) x3 x4 x5 x6 x7 x8 x9 g
  have hk : kids (lrowD (r.filter (isHere lot))) = true := imms_row _
  have he : enumO [lrowD (r.filter (isHere lot))] = some (enumD 0 ((r.filter (isHere lot)).map natD)) := rfl
  have hs := sortF_pr (brkP ws (stre lot (r.filter (isHere lot))))
  have hi : imms ((sortP (brkP ws (stre lot (r.filter (isHere lot))))).map prD) = true := imms_pr _
  simp at h
  unfold s_broken_stretches brokenL
  rw [ir_bs_eq]
  simp [runD, EI, ES, EV, EV2, EG, envOf, wipeE, endM, imm, imms, after, setTg, sz0, isRng, hc, hk, he, frzE, h, biO, one1, onL, hs, kids]
theorem broken_ok (ws : Ws) (r : List Nat) (lot : Lot) (hr : RowOk ws.length r) (hl : LotOk ws.length lot) (hin : LotIn lot r) (hn : ws.length ≤ 100) (g : G) : s_broken [bookD ws, rowD r, lotD lot] g = .ok (.lst ((brokenL ws lot r).map prD)) g := by
  have hlen := hr.len
  simp [s_broken, ir_broken, runD, EI, ES, EV, EV2, EG, envOf, wipeE, endM, imm, after, check_run_ok ws r lot hr hl hin (by omega), bs_ok ws r lot hr.lt (by omega) hl.1]
end Pm
end
section
set_option maxHeartbeats 1000000
/-! Pm8: runs and stretches. -/
namespace Pm
open PySem Dv Pg
def AllHere (lot : Lot) (r : List Nat) : Prop := ∀ w ∈ r, isHere lot w = true
theorem ran_cons (ws : Ws) (lot : Lot) (w : Nat) (r : List Nat) (c : Int) (h : isHere lot w = true) : ranGo ws lot c (w :: r) = (w, max c (firstW ws w), max c (firstW ws w) + lenV lot w) :: ranGo ws lot (max c (firstW ws w) + lenV lot w) r := by
  obtain ⟨l, hl⟩ := Option.isSome_iff_exists.mp h
  have : lenV lot w = l := by unfold lenV; rw [hl]; rfl
  rw [this]
  simp [ranGo, hl]
theorem pres_up (ws : Ws) (lot : Lot) : ∀ (r : List Nat) (c a : Int), AllHere lot r → ∀ q ∈ presG lot a r, ∃ t ∈ ranGo ws lot c r, t.1 = q.1 ∧ c + (q.2 - a) ≤ t.2.2
  | [], _, _, _, q, hq => by cases hq
  | w :: r, c, a, hh, q, hq => by
    have hw := hh w List.mem_cons_self
    rw [ran_cons ws lot w r c hw]
    have hq : q ∈ (w, a + lenV lot w) :: presG lot (a + lenV lot w) r := hq
    rcases List.mem_cons.mp hq with rfl | hq
    · refine ⟨_, List.mem_cons_self, rfl, ?_⟩
      simp only
      omega
    · obtain ⟨t, h1, h2, h3⟩ := pres_up ws lot r (max c (firstW ws w) + lenV lot w) (a + lenV lot w) (fun x hx => hh x (List.mem_cons_of_mem _ hx)) q hq
      exact ⟨t, List.mem_cons_of_mem _ h1, h2, by omega⟩
/-- a stretch is over by the end of its last one -/
theorem stre_up (ws : Ws) (lot : Lot) : ∀ (r : List Nat) (c : Int), AllHere lot r → ∀ q ∈ stre lot r, ∃ t ∈ ranGo ws lot c r, t.1 = q.2.1 ∧ firstW ws q.1 + q.2.2 ≤ t.2.2
  | [], _, _, q, hq => by cases hq
  | w :: r, c, hh, q, hq => by
    have hw := hh w List.mem_cons_self
    rcases List.mem_append.mp (show q ∈ ((presG lot 0 (w :: r)).map fun q => (w, q.1, q.2)) ++ stre lot r from hq) with hq | hq
    · obtain ⟨u, hu, rfl⟩ := List.mem_map.mp hq
      have hb := pres_up ws lot (w :: r) (max c (firstW ws w)) 0 hh u hu
      have e : ranGo ws lot (max c (firstW ws w)) (w :: r) = ranGo ws lot c (w :: r) := by
        rw [ran_cons ws lot w r _ hw, ran_cons ws lot w r _ hw]
        have : max (max c (firstW ws w)) (firstW ws w) = max c (firstW ws w) := by omega
        rw [this]
      rw [e] at hb
      obtain ⟨t, h1, h2, h3⟩ := hb
      exact ⟨t, h1, h2, by simp only; omega⟩
    · rw [ran_cons ws lot w r c hw]
      obtain ⟨t, h1, h2, h3⟩ := stre_up ws lot r (max c (firstW ws w) + lenV lot w) (fun x hx => hh x (List.mem_cons_of_mem _ hx)) q hq
      exact ⟨t, List.mem_cons_of_mem _ h1, h2, h3⟩
theorem pres_shift (lot : Lot) : ∀ (r : List Nat) (a d : Int) (q : Nat × Int), q ∈ presG lot a r → (q.1, q.2 + d) ∈ presG lot (a + d) r
  | [], _, _, q, hq => by cases hq
  | w :: r, a, d, q, hq => by
    have hq : q ∈ (w, a + lenV lot w) :: presG lot (a + lenV lot w) r := hq
    show _ ∈ (w, a + d + lenV lot w) :: presG lot (a + d + lenV lot w) r
    rcases List.mem_cons.mp hq with rfl | hq
    · have : a + lenV lot w + d = a + d + lenV lot w := by omega
      simp only [this]
      exact List.mem_cons_self
    · have := pres_shift lot r (a + lenV lot w) d q hq
      have e : a + lenV lot w + d = a + d + lenV lot w := by omega
      rw [e] at this
      exact List.mem_cons_of_mem _ this
/-- whoever ends, ends a stretch that began by its own hour, or is led by the clock -/
theorem ran_low (ws : Ws) (lot : Lot) : ∀ (r : List Nat) (c : Int), AllHere lot r → ∀ t ∈ ranGo ws lot c r,
    ((∃ w r', r = w :: r' ∧ firstW ws w < c) ∧ (t.1, t.2.2 - c) ∈ presG lot 0 r) ∨ ∃ q ∈ stre lot r, q.2.1 = t.1 ∧ t.2.2 = firstW ws q.1 + q.2.2 ∧ ∃ t' ∈ ranGo ws lot c r, t'.1 = q.1 ∧ t'.2.1 = firstW ws q.1
  | [], _, _, t, ht => by cases ht
  | w :: r, c, hh, t, ht => by
    have hw := hh w List.mem_cons_self
    rw [ran_cons ws lot w r c hw] at ht ⊢
    have hst : ∀ u ∈ presG lot 0 (w :: r), (w, u.1, u.2) ∈ stre lot (w :: r) := fun u hu => List.mem_append_left _ (List.mem_map.mpr ⟨u, hu, rfl⟩)
    have key : ∀ x e, (x, e - max c (firstW ws w)) ∈ presG lot 0 (w :: r) → ((∃ w' r', w :: r = w' :: r' ∧ firstW ws w' < c) ∧ (x, e - c) ∈ presG lot 0 (w :: r)) ∨ ∃ q ∈ stre lot (w :: r), q.2.1 = x ∧ e = firstW ws q.1 + q.2.2 ∧ ∃ t' ∈ (w, max c (firstW ws w), max c (firstW ws w) + lenV lot w) :: ranGo ws lot (max c (firstW ws w) + lenV lot w) r, t'.1 = q.1 ∧ t'.2.1 = firstW ws q.1 := fun x e hm => by
      by_cases hc : firstW ws w < c
      · have : max c (firstW ws w) = c := by omega
        rw [this] at hm
        exact .inl ⟨⟨w, r, rfl, hc⟩, hm⟩
      · have hmx : max c (firstW ws w) = firstW ws w := by omega
        rw [hmx] at hm
        refine .inr ⟨_, hst _ hm, rfl, ?_, _, List.mem_cons_self, rfl, ?_⟩
        · simp only; omega
        · simp only [hmx]
    rcases List.mem_cons.mp ht with rfl | ht
    · refine key w _ ?_
      show _ ∈ (w, 0 + lenV lot w) :: presG lot (0 + lenV lot w) r
      have : max c (firstW ws w) + lenV lot w - max c (firstW ws w) = 0 + lenV lot w := by omega
      simp only [this]
      exact List.mem_cons_self
    · rcases ran_low ws lot r (max c (firstW ws w) + lenV lot w) (fun x hx => hh x (List.mem_cons_of_mem _ hx)) t ht with ⟨_, h⟩ | ⟨q, h1, h2, h3, t', h4, h5⟩
      · refine key t.1 t.2.2 ?_
        have hs := pres_shift lot r 0 (lenV lot w) _ h
        refine List.mem_cons_of_mem _ ?_
        have : t.2.2 - (max c (firstW ws w) + lenV lot w) + lenV lot w = t.2.2 - max c (firstW ws w) := by omega
        rw [this] at hs
        exact hs
      · exact .inr ⟨q, List.mem_append_right _ h1, h2, h3, t', List.mem_cons_of_mem _ h4, h5⟩
theorem ran_low0 (ws : Ws) (lot : Lot) (hf : ∀ w, 0 ≤ firstW ws w) (r : List Nat) (hh : AllHere lot r) (t : Tri) (ht : t ∈ ranGo ws lot 0 r) : ∃ q ∈ stre lot r, q.2.1 = t.1 ∧ t.2.2 = firstW ws q.1 + q.2.2 ∧ ∃ t' ∈ ranGo ws lot 0 r, t'.1 = q.1 ∧ t'.2.1 = firstW ws q.1 := by
  rcases ran_low ws lot r 0 hh t ht with ⟨⟨w, r', rfl, h⟩, _⟩ | h
  · have := hf w
    omega
  · exact h
theorem first_nonneg (ws : Ws) (hw : ∀ q ∈ ws, winOk q) (w : Nat) : 0 ≤ firstW ws w := by
  unfold firstW
  rw [List.getD_eq_getElem?_getD]
  cases hq : ws[w]? with
  | none => simp
  | some q => exact (hw q (List.mem_of_getElem? hq)).1
def streV (ws : Ws) (q : Nat × Nat × Int) : Int := firstW ws q.1 + q.2.2 - lastW ws q.2.1
theorem maxI_eq {a b : List Int} (h1 : ∀ x ∈ a, ∃ y ∈ b, x ≤ y) (h2 : ∀ y ∈ b, ∃ x ∈ a, y ≤ x) : maxI a = maxI b := by
  cases ha : maxI a with
  | none =>
    have := maxI_none.mp ha
    subst this
    cases hb : maxI b with
    | none => rfl
    | some m =>
      obtain ⟨x, hx, _⟩ := h2 m (maxI_some hb).1
      cases hx
  | some m =>
    obtain ⟨a1, a2⟩ := maxI_some ha
    obtain ⟨y, hy, hxy⟩ := h1 m a1
    cases hb : maxI b with
    | none =>
      rw [maxI_none.mp hb] at hy
      cases hy
    | some n =>
      obtain ⟨b1, b2⟩ := maxI_some hb
      obtain ⟨x, hx, hyx⟩ := h2 n b1
      have := b2 y hy
      have := a2 x hx
      congr 1
      omega
/-- lateness by stretches -/
theorem late_stre (ws : Ws) (lot : Lot) (hw : ∀ q ∈ ws, winOk q) (r : List Nat) (hh : AllHere lot r) : lateV ws lot r = maxI ((stre lot r).map (streV ws)) := by
  unfold lateV lates
  refine maxI_eq (fun x hx => ?_) fun y hy => ?_
  · obtain ⟨t, ht, rfl⟩ := List.mem_map.mp hx
    obtain ⟨q, h1, h2, h3, _⟩ := ran_low0 ws lot (first_nonneg ws hw) r hh t ht
    refine ⟨_, List.mem_map.mpr ⟨q, h1, rfl⟩, ?_⟩
    unfold streV
    rw [h2, h3]
    omega
  · obtain ⟨q, hq, rfl⟩ := List.mem_map.mp hy
    obtain ⟨t, h1, h2, h3⟩ := stre_up ws lot r 0 hh q hq
    refine ⟨_, List.mem_map.mpr ⟨t, h1, rfl⟩, ?_⟩
    unfold streV
    rw [h2]
    omega
theorem filter_all {lot : Lot} {r : List Nat} (h : AllHere lot r) : r.filter (isHere lot) = r := List.filter_eq_self.mpr h
theorem sortP_nil {l : List (Int × Int)} : sortP l = [] ↔ l = [] := by
  constructor
  · intro h
    have := (sortP_perm l).length_eq
    rw [h] at this
    exact List.eq_nil_of_length_eq_zero this.symm
  · intro h; subst h; rfl
theorem mem_broken {ws : Ws} {lot : Lot} {r : List Nat} {p : Int × Int} : p ∈ brokenL ws lot r ↔ ∃ q ∈ stre lot (r.filter (isHere lot)), lastW ws q.2.1 < firstW ws q.1 + q.2.2 ∧ p = ((q.1 : Int), (q.2.1 : Int)) := by
  unfold brokenL
  rw [(sortP_perm _).mem_iff]
  unfold brkP
  constructor
  · intro h
    obtain ⟨q, h1, rfl⟩ := List.mem_map.mp h
    obtain ⟨h2, h3⟩ := List.mem_filter.mp h1
    exact ⟨q, h2, of_decide_eq_true h3, rfl⟩
  · rintro ⟨q, h1, h2, rfl⟩
    exact List.mem_map.mpr ⟨q, List.mem_filter.mpr ⟨h1, decide_eq_true h2⟩, rfl⟩
/-- served just where no stretch is broken -/
theorem serves_broken (ws : Ws) (lot : Lot) (hw : ∀ q ∈ ws, winOk q) (r : List Nat) (hh : AllHere lot r) : servesV ws lot r = (brokenL ws lot r).isEmpty := by
  rw [Bool.eq_iff_iff]
  unfold servesV
  rw [List.all_eq_true, List.isEmpty_iff]
  constructor
  · intro h
    refine List.eq_nil_iff_forall_not_mem.mpr fun p hp => ?_
    obtain ⟨q, h1, h2, _⟩ := mem_broken.mp hp
    rw [filter_all hh] at h1
    obtain ⟨t, h3, h4, h5⟩ := stre_up ws lot r 0 hh q h1
    have := of_decide_eq_true (h t h3)
    rw [h4] at this
    omega
  · intro h t ht
    refine decide_eq_true ?_
    obtain ⟨q, h1, h2, h3, _⟩ := ran_low0 ws lot (first_nonneg ws hw) r hh t ht
    by_cases hlt : t.2.2 ≤ lastW ws t.1
    · exact hlt
    · exfalso
      have : (((q.1 : Int), (q.2.1 : Int)) : Int × Int) ∈ brokenL ws lot r := mem_broken.mpr ⟨q, by rw [filter_all hh]; exact h1, by rw [h2]; omega, rfl⟩
      rw [h] at this
      cases this
end Pm
end
section
set_option maxHeartbeats 2000000
namespace Pm
open PySem Dv Pg
/-! slots frozen, one by one -/
def fz (o : Option (D × Bool)) : Option (D × Bool) := o.map fun p => (p.1, false)
def frzR (hd : List Nat) : Nat → Dv.Env → Dv.Env
  | _, [] => []
  | i, o :: t => (bif hd.contains i then o else fz o) :: frzR hd (i + 1) t
theorem frzR_eq (hd : List Nat) : ∀ (env : Dv.Env) (k : Nat), frzR hd k env = env.mapIdx fun i o => if i + k ∈ hd then o else o.map fun p => (p.1, false)
  | [], _ => rfl
  | o :: t, k => by
    show (bif hd.contains k then o else fz o) :: frzR hd (k + 1) t = _
    rw [List.mapIdx_cons, frzR_eq hd t (k + 1)]
    congr 1
    · simp only [Nat.zero_add]
      by_cases h : k ∈ hd
      · rw [if_pos h, List.contains_iff_mem.mpr h]; rfl
      · rw [if_neg h]
        have : hd.contains k = false := by
          cases hc : hd.contains k with
          | false => rfl
          | true => exact absurd (List.contains_iff_mem.mp hc) h
        rw [this]; rfl
    · congr 1
      funext i o
      rw [show i + (k + 1) = i + 1 + k by omega]
theorem frz_r (hd : List Nat) (env : Dv.Env) : frzE hd env = frzR hd 0 env := by
  rw [frzR_eq]; rfl
end Pm
end
section
set_option maxHeartbeats 1000000
/-! Pq: things of any kind: what repr, isinstance, is_pair, is_integer say of them. -/
namespace Pm
open PySem Dv Pg
theorem EV3 : (∀ a, (ev (.rep a)).v = bind1 repO (ev a).v) ∧ (∀ k a, (ev (.dsp k a)).v = dspM k (ev a).v) ∧ (∀ x s, (ev (.call0 x s)).v = fun _ => s []) ∧ (∀ x s, (ev (.call0 x s)).t = truM fun _ => s []) ∧
    (∀ k f env g, dspM k f env g = (match f env g with | .ok d g' => .ok (.dct [(keyOf k, d)]) g' | .err e g' => .err e g' | .stuck => .stuck)) := by
  refine ⟨?_, ?_, ?_, ?_, ?_⟩ <;> intros
  · rfl
  · rfl
  · rfl
  · rfl
  · rename_i k f env g
    unfold dspM M.bind
    cases f env g <;> rfl
mutual
def gdD : D → Bool
  | .non => true | .bl _ => true
  | .int i => decide (i.natAbs < 10 ^ 39)
  | .str x => x.cps.toList.all fun c => decide (c < 16 ^ 8)
  | .tup ds => gdDs ds
  | .lst ds => gdDs ds
  | .dct kvs => gdDk kvs
  | _ => false
def gdDs : List D → Bool
  | [] => true
  | d :: r => gdD d && gdDs r
def gdDk : List (D × D) → Bool
  | [] => true
  | (k, d) :: r => (keyD k).isSome && gdD k && gdD d && gdDk r
end
mutual
def dpD : D → Nat
  | .tup ds => dpDs ds + 1
  | .lst ds => dpDs ds + 1
  | .dct kvs => dpDk kvs + 1
  | _ => 0
def dpDs : List D → Nat
  | [] => 0
  | d :: r => max (dpD d) (dpDs r)
def dpDk : List (D × D) → Nat
  | [] => 0
  | (_, d) :: r => max (dpD d) (dpDk r)
end
mutual
def wtD : D → Nat
  | .int _ => 130
  | .str x => x.cps.size
  | .tup ds => wtDs ds
  | .lst ds => wtDs ds
  | .dct kvs => wtDk kvs
  | _ => 0
def wtDs : List D → Nat
  | [] => 0
  | d :: r => wtD d + 1 + wtDs r
def wtDk : List (D × D) → Nat
  | [] => 0
  | (k, d) :: r => wtD k + wtD d + 2 + wtDk r
end
structure Shw (p : PyData) (m w : Nat) : Prop where
  s : p.showable = true
  l : p.leavesShort 40 = true
  d : p.depth ≤ m
  w : p.weight ≤ w
theorem shw_int {i : Int} (h : i.natAbs < 10 ^ 39) : Shw (.int i) 0 130 := by
  have h0 : i.natAbs.log2 < 130 := by
    by_cases q : i.natAbs = 0
    · rw [q]; decide
    · exact (Nat.log2_lt q).mpr (Nat.lt_of_lt_of_le h (by decide))
  refine ⟨?_, ?_, ?_, ?_⟩
  · simp only [PyData.showable, decide_eq_true_eq]; omega
  · simp only [PyData.leavesShort, decide_eq_true_eq]
    show (Str.ofString (toString i)).length ≤ 40
    rw [ofString_length]
    exact int_text_length_le10 (k := 39) (by decide) h
  · simp only [PyData.depth]; omega
  · simp only [PyData.weight]
    split <;> omega
mutual
theorem gd_ok : ∀ d : D, gdD d = true → ∃ p, toQ d = some p ∧ Shw p (dpD d) (wtD d)
  | .non, _ => ⟨.none, rfl, rfl, rfl, Nat.le_refl _, Nat.le_refl _⟩
  | .bl b, _ => ⟨.bool b, rfl, rfl, rfl, Nat.le_refl _, Nat.le_refl _⟩
  | .int i, h => ⟨.int i, rfl, shw_int (of_decide_eq_true h)⟩
  | .str x, h => ⟨.str x, rfl, rfl, by simpa only [PyData.leavesShort, gdD] using h, Nat.le_refl _, Nat.le_refl _⟩
  | .tup ds, h => by
    obtain ⟨ps, e, h1, h2, h3, h4⟩ := gds_ok ds h
    refine ⟨.tuple ps, by show (toQs ds).map _ = _; rw [e]; rfl, h1, h2, ?_, h4⟩
    simp only [PyData.depth, dpD]; omega
  | .lst ds, h => by
    obtain ⟨ps, e, h1, h2, h3, h4⟩ := gds_ok ds h
    refine ⟨.list ps, by show (toQs ds).map _ = _; rw [e]; rfl, h1, h2, ?_, h4⟩
    simp only [PyData.depth, dpD]; omega
  | .dct kvs, h => by
    obtain ⟨ps, e, h1, h2, h3, h4⟩ := gdk_ok kvs h
    refine ⟨.dict ps, by show (toQk kvs).map _ = _; rw [e]; rfl, h1, h2, ?_, h4⟩
    simp only [PyData.depth, dpD]; omega
  | .obj _ _, h => by cases h
  | .con _, h => by cases h
  | .pool, h => by cases h
  | .cel, h => by cases h
  | .scr _, h => by cases h
theorem gds_ok : ∀ ds : List D, gdDs ds = true → ∃ ps, toQs ds = some ps ∧ PyData.showableAll ps = true ∧ PyData.leavesShortAll 40 ps = true ∧ PyData.depthAll ps ≤ dpDs ds ∧ PyData.weightAll ps ≤ wtDs ds
  | [], _ => ⟨[], rfl, rfl, rfl, Nat.le_refl _, Nat.le_refl _⟩
  | d :: r, h => by
    obtain ⟨h1, h2⟩ := Bool.and_eq_true_iff.mp (show (gdD d && gdDs r) = true from h)
    obtain ⟨p, e1, a1, a2, a3, a4⟩ := gd_ok d h1
    obtain ⟨ps, e2, b1, b2, b3, b4⟩ := gds_ok r h2
    refine ⟨p :: ps, ?_, ?_, ?_, ?_, ?_⟩
    · show (match toQ d, toQs r with | some p, some ps => some (p :: ps) | _, _ => none) = _
      rw [e1, e2]
    · simp only [PyData.showableAll, a1, b1, Bool.and_self]
    · simp only [PyData.leavesShortAll, a2, b2, Bool.and_self]
    · simp only [PyData.depthAll, dpDs]; omega
    · simp only [PyData.weightAll, wtDs]; omega
theorem gdk_ok : ∀ ds : List (D × D), gdDk ds = true → ∃ ps, toQk ds = some ps ∧ PyData.showableKv ps = true ∧ PyData.leavesShortKv 40 ps = true ∧ PyData.depthKv ps ≤ dpDk ds ∧ PyData.weightKv ps ≤ wtDk ds
  | [], _ => ⟨[], rfl, rfl, rfl, Nat.le_refl _, Nat.le_refl _⟩
  | (k, d) :: r, h => by
    have h : ((keyD k).isSome && gdD k && gdD d && gdDk r) = true := h
    simp only [Bool.and_eq_true] at h
    obtain ⟨⟨⟨h0, hk⟩, h1⟩, h2⟩ := h
    obtain ⟨p, e1, a1, a2, a3, a4⟩ := gd_ok d h1
    obtain ⟨ps, e2, b1, b2, b3, b4⟩ := gdk_ok r h2
    have key : ∃ z, keyD k = some z ∧ Shw (keyP z) 0 (wtD k) := by
      cases k with
      | int i => exact ⟨.inl i, rfl, shw_int (of_decide_eq_true hk)⟩
      | str x => exact ⟨.inr x, rfl, rfl, (by simpa only [PyData.leavesShort, gdD] using hk : PyData.leavesShort 40 (.str x) = true), Nat.le_refl _, Nat.le_refl _⟩
      | _ => cases h0
    obtain ⟨z, ez, c1, c2, c3, c4⟩ := key
    refine ⟨(keyP z, p) :: ps, ?_, ?_, ?_, ?_, ?_⟩
    · show (match keyD k, toQ d, toQk r with | some k, some p, some ps => some ((keyP k, p) :: ps) | _, _, _ => none) = _
      rw [ez, e1, e2]
    · simp only [PyData.showableKv, a1, b1, c1, Bool.and_self]
    · simp only [PyData.leavesShortKv, a2, b2, c2, Bool.and_self]
    · simp only [PyData.depthKv, dpDk]; omega
    · simp only [PyData.weightKv, wtDk]; omega
end
/-- a plain thing, this deep and this great at most -/
structure Gd (d : D) (m w : Nat) : Prop where
  g : gdD d = true
  p : dpD d ≤ m
  w : wtD d ≤ w
theorem Gd.mono {d : D} {m w m' w' : Nat} (h : Gd d m w) (h1 : m ≤ m') (h2 : w ≤ w') : Gd d m' w' := ⟨h.g, by have := h.p; omega, by have := h.w; omega⟩
def gdB (m w : Nat) (d : D) : Bool := gdD d && decide (dpD d ≤ m) && decide (wtD d ≤ w)
theorem gd_of {d : D} {m w : Nat} (h : gdB m w d = true) : Gd d m w := by
  unfold gdB at h
  simp only [Bool.and_eq_true, decide_eq_true_eq] at h
  exact ⟨h.1.1, h.1.2, h.2⟩
theorem Gd.all {m w : Nat} : ∀ ds : List D, (∀ d ∈ ds, Gd d m w) → gdDs ds = true ∧ dpDs ds ≤ m ∧ wtDs ds ≤ ds.length * (w + 1)
  | [], _ => ⟨rfl, Nat.zero_le _, Nat.zero_le _⟩
  | d :: r, h => by
    obtain ⟨h1, h2, h3⟩ := h d List.mem_cons_self
    obtain ⟨k1, k2, k3⟩ := Gd.all r fun x hx => h x (List.mem_cons_of_mem _ hx)
    refine ⟨?_, ?_, ?_⟩
    · show (gdD d && gdDs r) = true
      rw [h1, k1]; rfl
    · simp only [dpDs]; omega
    · simp only [wtDs, List.length_cons, Nat.succ_mul]; omega
theorem Gd.tup {m w n : Nat} {ds : List D} (h : ∀ d ∈ ds, Gd d m w) (hn : ds.length ≤ n) : Gd (.tup ds) (m + 1) (n * (w + 1)) := by
  obtain ⟨k1, k2, k3⟩ := Gd.all ds h
  exact ⟨k1, by simp only [dpD]; omega, Nat.le_trans (show wtDs ds ≤ _ from k3) (Nat.mul_le_mul_right _ hn)⟩
theorem Gd.lst {m w n : Nat} {ds : List D} (h : ∀ d ∈ ds, Gd d m w) (hn : ds.length ≤ n) : Gd (.lst ds) (m + 1) (n * (w + 1)) := by
  obtain ⟨k1, k2, k3⟩ := Gd.all ds h
  exact ⟨k1, by simp only [dpD]; omega, Nat.le_trans (show wtDs ds ≤ _ from k3) (Nat.mul_le_mul_right _ hn)⟩
theorem Gd.int {i : Int} (h : i.natAbs < 10 ^ 39) (m : Nat) : Gd (.int i) m 130 := ⟨decide_eq_true h, Nat.zero_le _, Nat.le_refl _⟩
theorem repO_ok {d : D} {m w : Nat} (h : Gd d m w) (h1 : m ≤ 64) (h2 : w ≤ 300000) : ∃ x, repO d = some (.str x) := by
  obtain ⟨p, e, s1, s2, s3, s4⟩ := gd_ok d h.g
  have hl : p.shown.length ≤ sizeLine := by
    have k1 := PyData.shown_le 40 (by decide) p s2
    have k2 : (40 + 2) * p.weight ≤ 42 * 300000 := Nat.mul_le_mul (by decide) (by have := h.w; omega)
    rw [sizeLine_eq]
    omega
  refine ⟨p.shown, ?_⟩
  unfold repO
  rw [e]
  show (if cb (repC p) then some (D.str p.shown) else none) = _
  rw [cb_iff.mpr ⟨s1, by have := h.p; omega, hl⟩]
  rfl
/-! what the checks say of any thing -/
def isI : D → Bool
  | .int _ => true
  | _ => false
theorem is_integer_gd (d : D) (h : gdD d = true) (g : G) : s_is_integer [d] g = .ok (.bl (isI d)) g := by
  cases d <;> first | rfl | cases h
theorem noInt_gd {d : D} (h : gdD d = true) (hi : isI d = false) : noInt d := fun g => by rw [is_integer_gd d h g, hi]
theorem eq_len (n : Nat) (z : Int) : cmpO .Eq (.int n) (.int z) = some (.bl ((n : Int) == z)) := by
  show (eqD (.int n) (.int z)).map D.bl = _
  rw [eqD_int]; rfl
def isT : D → Bool
  | .tup _ => true
  | _ => false
theorem isi_tupD (d : D) (h : gdD d = true) : isiF [d, .con (.ty "tuple")] = some (.bl (isT d)) := by
  cases d <;> first | rfl | cases h
def isPr : D → Bool
  | .tup ds => (ds.length : Int) == 2
  | _ => false
theorem is_pair_gd (d : D) (h : gdD d = true) (g : G) : s_is_pair [d] g = .ok (.bl (isPr d)) g := by
  cases d with
  | tup ds =>
    have e := eq_len ds.length 2
    have e1 : isiF [.tup ds, .con (.ty "tuple")] = some (.bl true) := rfl
    simp [s_is_pair, ir_is_pair, runD, EI, ES, EV, EG, envOf, wipeE, endM, imm, after, e1, tru, biO, one1, lenF, e, isPr]
  | _ => first | rfl | cases h
theorem isPr_two {d : D} (h : isPr d = true) : ∃ a b, d = .tup [a, b] := by
  cases d with
  | tup ds =>
    have h : ((ds.length : Int) == 2) = true := h
    have h : ds.length = 2 := by have := eq_of_beq h; omega
    match ds, h with
    | [a, b], _ => exact ⟨a, b, rfl⟩
  | _ => cases h
def inB (d : D) (a b : Int) : Bool := match d with
  | .int i => decide (a ≤ i) && decide (i ≤ b)
  | _ => false
theorem is_within_gd (d : D) (h : gdD d = true) (a b : Int) (g : G) : s_is_within [d, .int a, .int b] g = .ok (.bl (inB d a b)) g := by
  cases hi : isI d with
  | true =>
    cases d with
    | int i => exact is_within_int i a b g
    | _ => cases hi
  | false =>
    have e : inB d a b = false := by cases d <;> first | rfl | cases hi
    rw [is_within_no d (noInt_gd h hi) a b g, e]
def fstI : D → Int
  | .int i => i
  | _ => 0
def winB (d : D) : Bool := match d with
  | .tup [a, b] => inB a 0 1000000 && inB b (fstI a) 1000000
  | _ => false
theorem gd_two {a b : D} (h : gdD (.tup [a, b]) = true) : gdD a = true ∧ gdD b = true := by
  have h : (gdD a && (gdD b && true)) = true := h
  simp only [Bool.and_eq_true] at h
  exact ⟨h.1, h.2.1⟩
theorem inB_int {d : D} {a b : Int} (h : inB d a b = true) : d = .int (fstI d) := by
  cases d <;> first | rfl | cases h
theorem is_window_gd (d : D) (h : gdD d = true) (g : G) : s_is_window [d] g = .ok (.bl (winB d)) g := by
  have ep := fun g => is_pair_gd d h g
  cases hp : isPr d with
  | false =>
    have e : winB d = false := by
      unfold winB
      split
      · cases hp
      · rfl
    rw [hp] at ep
    simp [s_is_window, ir_is_window, runD, EI, ES, EV, EG, envOf, wipeE, endM, imm, after, ep, tru, e]
  | true =>
    obtain ⟨a, b, rfl⟩ := isPr_two hp
    obtain ⟨ha, hb⟩ := gd_two h
    rw [hp] at ep
    have i0 : idxO (.tup [a, b]) (.int 0) = some a := rfl
    have i1 : idxO (.tup [a, b]) (.int 1) = some b := rfl
    have e1 := fun g => is_within_gd a ha 0 1000000 g
    show _ = R.ok (D.bl (inB a 0 1000000 && inB b (fstI a) 1000000)) g
    cases q : inB a 0 1000000 with
    | false =>
      rw [q] at e1
      simp [s_is_window, ir_is_window, runD, EI, ES, EV, EG, envOf, wipeE, endM, imm, after, ep, tru, e1, i0, i1]
    | true =>
      rw [q] at e1
      have ea := inB_int q
      have e2 := fun g => is_within_gd b hb (fstI a) 1000000 g
      rw [← ea] at e2
      simp [s_is_window, ir_is_window, runD, EI, ES, EV, EG, envOf, wipeE, endM, imm, after, ep, tru, e1, e2, i0, i1]
theorem gds_mem : ∀ {ds : List D}, gdDs ds = true → ∀ d ∈ ds, gdD d = true
  | [], _, d, hd => by cases hd
  | x :: r, h, d, hd => by
    obtain ⟨h1, h2⟩ := Bool.and_eq_true_iff.mp (show (gdD x && gdDs r) = true from h)
    rcases List.mem_cons.mp hd with e | hd
    · rw [e]; exact h1
    · exact gds_mem h2 d hd
theorem idx_any (xs : List D) (j : Int) (h0 : 0 ≤ j) (h1 : j < xs.length) : ∃ d ∈ xs, idxO (.lst xs) (.int j) = some d := by
  have e := atI_nat xs j h0 h1
  have hl : j.toNat < xs.length := by omega
  rw [List.getElem?_eq_getElem hl] at e
  exact ⟨xs[j.toNat], List.getElem_mem hl, e⟩
end Pm
end
section
set_option maxHeartbeats 1000000
/-! Pq2: rows, lots of any kind judged by the program. -/
namespace Pm
open PySem Dv Pg
theorem cmp_bl (u v : Bool) : cmpO .NotEq (.bl u) (.bl v) = some (.bl (!(u == v))) := by cases u <;> cases v <;> rfl
theorem all_bl {α : Type} (f : α → Bool) (xs : List α) : allF (xs.map fun x => D.bl (f x)) = some (.bl (xs.all f)) := by
  unfold allF
  rw [boolsD_map]
  simp only [Option.map_some, List.all_map]
  rfl
def workB (n : Nat) (d : D) : Bool := inB d 0 ((n : Int) - 1)
theorem is_work_gd (ws : Ws) (d : D) (h : gdD d = true) (g : G) : s_is_work [bookD ws, d] g = .ok (.bl (workB ws.length d)) g := by
  cases hi : isI d with
  | true =>
    cases d with
    | int i => exact is_work_int ws i g
    | _ => cases hi
  | false =>
    have e : workB ws.length d = false := by cases d <;> first | rfl | cases hi
    rw [is_work_no ws d (noInt_gd h hi) g, e]
theorem workB_int {n : Nat} {d : D} (h : workB n d = true) : d = .int (fstI d) ∧ 0 ≤ fstI d ∧ fstI d < n := by
  have e := inB_int h
  unfold workB at h
  rw [e] at h
  have h : (decide (0 ≤ fstI d) && decide (fstI d ≤ (n : Int) - 1)) = true := h
  simp only [Bool.and_eq_true, decide_eq_true_eq] at h
  exact ⟨e, h.1, by omega⟩
theorem works_ints {n : Nat} : ∀ {ds : List D}, ds.all (workB n) = true → ds = (ds.map fstI).map D.int ∧ ∀ x ∈ ds.map fstI, 0 ≤ x ∧ x < (n : Int)
  | [], _ => ⟨rfl, fun _ h => by cases h⟩
  | d :: r, h => by
    obtain ⟨h1, h2⟩ := Bool.and_eq_true_iff.mp (show (workB n d && r.all (workB n)) = true from h)
    obtain ⟨e, k1, k2⟩ := workB_int h1
    obtain ⟨e2, k3⟩ := works_ints h2
    refine ⟨?_, fun x hx => ?_⟩
    · rw [List.map_cons, List.map_cons, ← e, ← e2]
    · rcases List.mem_cons.mp hx with q | q
      · rw [q]; exact ⟨k1, k2⟩
      · exact k3 x q
theorem fm_lt (f : Nat → Int) : ∀ n, (∃ i j, i < j ∧ j < n ∧ f i = f j) → (PyProof.Rows.firstMet f n).length < n
  | 0, ⟨_, _, _, h, _⟩ => by omega
  | n + 1, ⟨i, j, h1, h2, e⟩ => by
    rw [PyProof.Rows.firstMet_succ]
    unfold PyProof.Rows.step_dedup
    have hl := PyProof.Rows.firstMet_length_le f n
    by_cases hj : j = n
    · subst hj
      have ha : (PyProof.Rows.firstMet f j).any (· == f j) = true := by
        rw [PyProof.Rows.firstMet_any, List.any_eq_true]
        exact ⟨f i, List.mem_map.mpr ⟨i, List.mem_range.mpr h1, rfl⟩, by simp [e]⟩
      rw [if_pos ha]
      omega
    · have ih := fm_lt f n ⟨i, j, h1, by omega, e⟩
      split
      · omega
      · rw [List.length_append, List.length_singleton]; omega
theorem dist_dup {xs : List Int} (h : ¬ xs.Nodup) : distN xs < xs.length := by
  unfold distN
  apply fm_lt
  apply Classical.byContradiction
  intro hn
  apply h
  rw [List.Nodup, List.pairwise_iff_getElem]
  intro i j hi hj hij e
  exact hn ⟨i, j, hij, hj, by rw [List.getD_eq_getElem?_getD, List.getD_eq_getElem?_getD, List.getElem?_eq_getElem hi, List.getElem?_eq_getElem hj, e]⟩
theorem dist_ndp {xs : List Int} (h : xs.Nodup) : distN xs = xs.length := by
  unfold distN
  rw [RZ.firstMet_nodup _ _ (Nat.le_refl _), List.take_length]
  exact h
/-- unlike works -/
def rowB (n : Nat) (d : D) : Bool := match d with
  | .tup ds => ds.all (workB n) && cb ((ds.map fstI).Nodup)
  | _ => false
theorem row_comp (ws : Ws) (ds : List D) (hg : ∀ d ∈ ds, gdD d = true) (hl : ds.length ≤ 4000) (x2 : Option (D × Bool)) (g : G) :
    compM [2] (.one 2) (seqM (getM 1)) yesT (callM 2 s_is_work (consM (getM 0) (consM (getM 2) nilM))) [some (bookD ws, false), some (.tup ds, false), x2] g = .ok (.lst (ds.map fun d => .bl (workB ws.length d))) g := by
  rw [g_compM]
  have : seqM (getM 1) [some (bookD ws, false), some (.tup ds, false), x2] g = .ok (ds.map id) g := by simp [EG, seqO]
  rw [this]
  simp only [List.length_map]
  rw [if_pos (fits _ (by omega)), compGo_all _ id (fun d => .bl (workB ws.length d)) g ds fun d hd => ?_]
  rw [g_step1]
  simp [EG, wipeE, is_work_gd ws d (hg d hd)]
theorem lens (d : D) (ds : List D) : lenF (.tup ds) = some (.int ds.length) := rfl
theorem is_row_gd (ws : Ws) (d : D) (h : gdD d = true) (hl : ∀ ds, d = .tup ds → ds.length ≤ 4000) (g : G) : s_is_row [bookD ws, d] g = .ok (.bl (rowB ws.length d)) g := by
  cases d with
  | tup ds =>
    have hl := hl ds rfl
    have hg := gds_mem (ds := ds) h
    have e1 : isiF [.tup ds, .con (.ty "tuple")] = some (.bl true) := rfl
    have k1 := fun x2 g => row_comp ws ds hg hl x2 g
    have k2 := all_bl (workB ws.length) ds
    show _ = R.ok (D.bl (ds.all (workB ws.length) && cb ((ds.map fstI).Nodup))) g
    have trb : ∀ b, tru (.bl b) = some b := fun _ => rfl
    cases hall : ds.all (workB ws.length) with
    | false =>
      rw [hall] at k2
      generalize ds.map (fun d => D.bl (workB ws.length d)) = L at k1 k2
      simp [s_is_row, ir_is_row, runD, EI, ES, EV, EV2, EG, envOf, wipeE, endM, imm, after, e1, trb, biO, one1, onL, k1, k2]
    | true =>
      rw [hall] at k2
      generalize ds.map (fun d => D.bl (workB ws.length d)) = L at k1 k2
      obtain ⟨ei, _⟩ := works_ints hall
      have k3 : lstF (.tup ds) = some (.lst ds) := rfl
      have k4 : lsetO (.lst ds) = some (.int (distN (ds.map fstI) : Nat)) := by
        have hle : (ds.map fstI).length ≤ 4000 := by rw [List.length_map]; exact hl
        generalize ds.map fstI = xs at ei hle
        subst ei
        show (intsD (xs.map D.int)).bind _ = _
        rw [intsD_map]
        show (if xs.length ≤ 4000 then _ else _) = _
        rw [if_pos hle]
      have k5 : lenF (.tup ds) = some (.int ds.length) := rfl
      have k6 : cmpO .Eq (.int (distN (ds.map fstI) : Nat)) (.int (ds.length : Nat)) = some (.bl (cb ((ds.map fstI).Nodup))) := by
        show (eqD (.int (distN (ds.map fstI) : Nat)) (.int (ds.length : Nat))).map D.bl = _
        rw [eqD_int]
        by_cases hn : (ds.map fstI).Nodup
        · rw [dist_ndp hn, List.length_map, cb_iff.mpr hn]; simp
        · have := dist_dup hn
          rw [List.length_map] at this
          have hf : cb ((ds.map fstI).Nodup) = false := by
            cases q : cb ((ds.map fstI).Nodup) with
            | false => rfl
            | true => exact absurd (cb_iff.mp q) hn
          rw [hf]
          have : (((distN (ds.map fstI) : Nat) : Int) == (ds.length : Nat)) = false := by
            rw [beq_eq_false_iff_ne]; omega
          rw [this]; rfl
      simp [s_is_row, ir_is_row, runD, EI, ES, EV, EV2, EG, envOf, wipeE, endM, imm, after, e1, trb, biO, one1, onL, k1, k2, k3, k4, k5, k6]
  | _ => first | rfl | cases h
/-! lots -/
def itemB (d : D) : Bool := match d with
  | .non => true
  | .int i => decide (0 ≤ i)
  | _ => false
def lotB (n : Nat) (d : D) : Bool := match d with
  | .tup ds => ((ds.length : Int) == (n : Int)) && ds.all itemB
  | _ => false
def isN : D → Bool
  | .non => true
  | _ => false
theorem is_non_gd (d : D) (h : gdD d = true) : cmpO .Is d .non = some (.bl (isN d)) := by
  cases d <;> first | rfl | cases h
theorem isnot_non_gd (d : D) (h : gdD d = true) : cmpO .IsNot d .non = some (.bl (!isN d)) := by
  cases d <;> first | rfl | cases h
theorem is_from_gd (d : D) (h : gdD d = true) (g : G) : s_is_from [d, .int 0] g = .ok (.bl (isI d && itemB d)) g := by
  cases d with
  | int i => exact is_from_int i 0 g
  | _ => first | rfl | cases h
theorem lot_comp (ws : Ws) (ds : List D) (hg : ∀ d ∈ ds, gdD d = true) (hl : ds.length ≤ 4000) (x0 x2 : Option (D × Bool)) (g : G) :
    compM [2] (.one 2) (seqM (getM 1)) yesT (Dv.orM (bind2 (cmpO .Is) (getM 2) fun _ => M.ret .non) (callM 2 s_is_from (consM (getM 2) (consM (fun _ => M.ret (.int 0)) nilM)))) [x0, some (.tup ds, false), x2] g = .ok (.lst (ds.map fun d => .bl (itemB d))) g := by
  rw [g_compM]
  have : seqM (getM 1) [x0, some (.tup ds, false), x2] g = .ok (ds.map id) g := by simp [EG, seqO]
  rw [this]
  simp only [List.length_map]
  rw [if_pos (fits _ (by omega)), compGo_all _ id (fun d => .bl (itemB d)) g ds fun d hd => ?_]
  rw [g_step1]
  have hd' := hg d hd
  have e1 := is_non_gd d hd'
  have e2 := fun g => is_from_gd d hd' g
  have trb : ∀ b, tru (.bl b) = some b := fun _ => rfl
  cases hn : isN d with
  | true =>
    rw [hn] at e1
    have hi : itemB d = true := by cases d <;> first | rfl | cases hn
    simp [EG, wipeE, e1, trb, hi]
  | false =>
    rw [hn] at e1
    have hi : (isI d && itemB d) = itemB d := by cases d <;> first | rfl | cases hn
    rw [hi] at e2
    simp [EG, wipeE, e1, e2, trb]
theorem is_lot_gd (ws : Ws) (d : D) (h : gdD d = true) (hl : ∀ ds, d = .tup ds → ds.length ≤ 4000) (g : G) : s_is_lot [bookD ws, d] g = .ok (.bl (lotB ws.length d)) g := by
  cases d with
  | tup ds =>
    have hl := hl ds rfl
    have hg := gds_mem (ds := ds) h
    have e1 : isiF [.tup ds, .con (.ty "tuple")] = some (.bl true) := rfl
    have k1 := fun x0 x2 g => lot_comp ws ds hg hl x0 x2 g
    have k2 := all_bl itemB ds
    have k5 : lenF (.tup ds) = some (.int ds.length) := rfl
    have k6 := fun g => many_of_ok ws g
    have k7 : cmpO .NotEq (.int (ds.length : Nat)) (.int (ws.length : Nat)) = some (.bl (!((ds.length : Int) == (ws.length : Int)))) := by
      show ((eqD (.int (ds.length : Nat)) (.int (ws.length : Nat))).map (!·)).map D.bl = _
      rw [eqD_int]; rfl
    have trb : ∀ b, tru (.bl b) = some b := fun _ => rfl
    show _ = R.ok (D.bl (((ds.length : Int) == (ws.length : Int)) && ds.all itemB)) g
    generalize ds.map (fun d => D.bl (itemB d)) = L at k1 k2
    cases hq : ((ds.length : Int) == (ws.length : Int)) with
    | false =>
      rw [hq] at k7
      simp [s_is_lot, ir_is_lot, runD, EI, ES, EV, EV2, EG, envOf, wipeE, endM, imm, after, e1, trb, biO, one1, onL, k5, k6, k7]
    | true =>
      rw [hq] at k7
      simp [s_is_lot, ir_is_lot, runD, EI, ES, EV, EV2, EG, envOf, wipeE, endM, imm, after, e1, trb, biO, one1, onL, k1, k2, k5, k6, k7]
  | _ => first | rfl | cases h
theorem check_lot_gd (ws : Ws) (d : D) (h : gdD d = true) (hl : ∀ ds, d = .tup ds → ds.length ≤ 4000) (g : G) : s_check_lot [bookD ws, d] g = (if lotB ws.length d = true then .ok .non g else .err ⟨16, []⟩ g) := by
  have e := fun g => is_lot_gd ws d h hl g
  have trb : ∀ b, tru (.bl b) = some b := fun _ => rfl
  have h16 : exImm ⟨16, []⟩ = true := rfl
  cases hb : lotB ws.length d with
  | true =>
    rw [hb] at e
    simp [s_check_lot, ir_check_lot, runD, EI, ES, EV, EG, envOf, wipeE, endM, e, trb]
  | false =>
    rw [hb] at e
    simp [s_check_lot, ir_check_lot, runD, EI, ES, EV, EG, envOf, wipeE, endM, e, trb]
/-! slots that nobody owns stay as they are -/
def fl (o : Option D) : Option (D × Bool) := o.map fun d => (d, false)
theorem after_fl (hd : List Nat) (b : Bool) (L : List (Option D)) : after false hd b (L.map fl) = some (L.map fl) := by
  cases b with
  | true => rfl
  | false =>
    show some (frzE _ _) = _
    rw [frz_r]
    congr 1
    have key : ∀ (L : List (Option D)) (k : Nat), frzR hd k (L.map fl) = L.map fl := by
      intro L
      induction L with
      | nil => intro k; rfl
      | cons o r ih =>
        intro k
        rw [List.map_cons, frzR, ih (k + 1)]
        congr 1
        cases hd.contains k <;> cases o <;> rfl
    exact key L 0
theorem run_cons {m : Bool} {a : SI} {r : SIs} {env e : Dv.Env} {g g' : G} (h : evS m a env g = .ok (.nx e) g') : evSs m (.cons a r) env g = evSs m r e g' := by
  show sSeq (evS m a) (evSs m r) env g = _
  unfold sSeq
  rw [h]
theorem run_ret {m : Bool} {a : SI} {r : SIs} {env e : Dv.Env} {g g' : G} {d : D} (h : evS m a env g = .ok (.rt d e) g') : evSs m (.cons a r) env g = .ok (.rt d e) g' := by
  show sSeq (evS m a) (evSs m r) env g = _
  unfold sSeq
  rw [h]
/-! lists of ints compared, sorted -/
theorem shaped_list (xs : List Int) : SeqAt.shaped (.list (xs.map PyData.int)) = true := by
  unfold SeqAt.shaped
  have h1 : PyData.canLay0 (.list (xs.map PyData.int)) = true := by unfold PyData.canLay0; exact can_ints xs
  have h2 : PyData.depth (.list (xs.map PyData.int)) ≤ 64 := by
    have : PyData.depth (.list (xs.map PyData.int)) = PyData.depthAll (xs.map PyData.int) + 1 := by simp [PyData.depth]
    rw [this, depth_ints]; omega
  rw [h1, decide_eq_true h2]
  rfl
theorem eqD_list (xs ys : List Int) : eqD (.lst (xs.map D.int)) (.lst (ys.map D.int)) = some (decide (xs = ys)) := by
  refine eqD_of ?_
  unfold eqP
  have e : ∀ zs : List Int, toP (.lst (zs.map D.int)) = some (.list (zs.map PyData.int)) := fun zs => by
    show (toPs (zs.map D.int)).map PyData.list = _
    rw [toPs_ints]; rfl
  rw [e, e]
  simp only
  rw [shaped_list, shaped_list]
  show some (PyData.eqvAll (xs.map PyData.int) (ys.map PyData.int)) = _
  rw [eqv_ints]
theorem sort_ints (xs : List Int) : sortF (xs.map D.int) = some (.lst ((sortI xs).map D.int)) := by
  unfold sortF
  rw [intsD_map]
theorem zip_up : ∀ r : List Int, (∀ p ∈ r.zip r.tail, p.1 < p.2) → r.Pairwise (· < ·)
  | [], _ => .nil
  | [a], _ => by simp
  | a :: b :: t, h => by
    have ih := zip_up (b :: t) fun p hp => h p (List.mem_cons_of_mem _ hp)
    have h1 : a < b := h (a, b) List.mem_cons_self
    refine List.pairwise_cons.mpr ⟨fun x hx => ?_, ih⟩
    rcases List.mem_cons.mp hx with rfl | hx
    · exact h1
    · exact Int.lt_trans h1 ((List.pairwise_cons.mp ih).1 x hx)
theorem up_zip : ∀ r : List Int, r.Pairwise (· < ·) → ∀ p ∈ r.zip r.tail, p.1 < p.2
  | [], _, p, hp => by cases hp
  | [a], _, p, hp => by cases hp
  | a :: b :: t, h, p, hp => by
    rcases List.mem_cons.mp (show p ∈ (a, b) :: (b :: t).zip t from hp) with rfl | hp
    · exact (List.pairwise_cons.mp h).1 b List.mem_cons_self
    · exact up_zip (b :: t) (List.pairwise_cons.mp h).2 p hp
/-- unlike ints ascend exactly if they are as sorted -/
theorem asc_sort {xs : List Int} (hn : xs.Nodup) : ((xs.zip xs.tail).all fun p => decide (p.1 < p.2)) = decide (xs = sortI xs) := by
  rw [Bool.eq_iff_iff, List.all_eq_true, decide_eq_true_eq]
  constructor
  · intro h
    have up := zip_up xs fun p hp => of_decide_eq_true (h p hp)
    exact sorted_unique (sortI_perm xs).symm (up.imp fun h => Int.le_of_lt h) (sortI_sorted xs)
  · intro h
    have up := sortI_sorted xs
    rw [← h] at up
    have up2 : xs.Pairwise (· < ·) := (up.and hn).imp fun ⟨h1, h2⟩ => by omega
    exact fun p hp => decide_eq_true (up_zip xs up2 p hp)
theorem zip_ints (a b : List Int) : zipD (a.map D.int) (b.map D.int) = (a.zip b).map fun p => D.tup [.int p.1, .int p.2] := by
  induction a generalizing b with
  | nil => cases b <;> rfl
  | cons x r ih =>
    cases b with
    | nil => rfl
    | cons y t =>
      show D.tup [.int x, .int y] :: zipD (r.map D.int) (t.map D.int) = _
      rw [ih t]; rfl
end Pm
end
section
set_option maxHeartbeats 0
namespace K37
open PySem PySem.Spec PyProof.Rows L2 Dv
def top (i : Nat) : Stmt := PySem.Challenge.pw_bymiddles_k37_whole_throws_by_all_threes.main.body.getD i (.Pass ⟨0, 0, 0, 0⟩)
def inC (s : Stmt) (i : Nat) : Stmt := match s with
  | .ClassDef (body := b) .. => b.getD i (.Pass ⟨0, 0, 0, 0⟩)
  | s => s
/-! _law_pool : ['_law_script', '_law_seed', '_law_cell'] -/
def t__law_pool : Stmt := (top 30)
/-! _law_draw : ['_law_pool_here', '_law_many', '_law_cells', '_law_mixed', '_law_digit'] -/
def t__law_draw : Stmt := (top 31)
/-! _law_nested : ['_law_pool_here', '_law_many', '_law_top', '_law_found', '_law_middle_here', '_law_k', '_law_one', '_law_other'] -/
def t__law_nested : Stmt := (top 40)
def ir__law_nested : SIs :=
 (.cons (.own [3] 3 (.lst .nil))
 (.cons (.set [3] (.one 4) (.bin .Add (.var 2) (.call "_law_draw" 2 Pg.s__law_draw (.cons (.var 0) (.cons (.cst (.int 3)) .nil)))))
 (.cons (.for [3] (.one 5) (.rng1 (.var 1))
 (.cons (.set [3] (.one 6) (.call "_law_draw" 2 Pg.s__law_draw (.cons (.var 0) (.cons (.bin .Add (.bin .FloorDiv (.var 4) (.cst (.int 2))) (.cst (.int 1))) .nil))))
 (.cons (.set [3] (.one 7) (.bin .Add (.bin .Sub (.var 4) (.var 6)) (.idx (.lst (.cons (.cst (.int 0)) (.cons (.cst (.int 0)) (.cons (.cst (.int 0)) (.cons (.cst (.int 1)) (.cons (.cst (.int 2)) .nil)))))) (.call "_law_draw" 2 Pg.s__law_draw (.cons (.var 0) (.cons (.cst (.int 5)) .nil))))))
 (.cons (.app [3] 3 (.tup (.cons (.var 6) (.cons (.var 7) .nil))))
 .nil))))
 (.cons (.ret [] (.bi .tuple (.cons (.var 3) .nil)))
 .nil))))
def s__law_nested : List D → M D := runD 5 (evSs false ir__law_nested)
/-! _law_windows : ['_law_pool_here', '_law_many', '_law_top', '_law_kind', '_law_found', '_law_middle_here', '_law_k', '_law_one', '_law_other'] -/
def t__law_windows : Stmt := (top 32)
/-! _law_book_windows : ['_law_pool_here', '_law_many', '_law_top'] -/
def t__law_book_windows : Stmt := (top 41)
def ir__law_book_windows : SIs :=
 (.cons (.set [] (.one 2) (.idx (.lst (.cons (.cst (.int 5)) (.cons (.cst (.int 12)) (.cons (.cst (.int 12)) (.cons (.bin .Pow (.cst (.int 10)) (.cst (.int 5))) .nil))))) (.call "_law_draw" 2 Pg.s__law_draw (.cons (.var 0) (.cons (.cst (.int 4)) .nil)))))
 (.cons (.ifs (.cmp .Eq (.call "_law_draw" 2 Pg.s__law_draw (.cons (.var 0) (.cons (.cst (.int 3)) .nil))) (.cst (.int 0)))
 (.cons (.ret [] (.call "_law_nested" 3 s__law_nested (.cons (.var 0) (.cons (.var 1) (.cons (.bi .min2 (.cons (.var 2) (.cons (.cst (.int 60)) .nil))) .nil)))))
 .nil)
 .nil)
 (.cons (.ret [] (.call "_law_windows" 3 Pg.s__law_windows (.cons (.var 0) (.cons (.var 1) (.cons (.var 2) .nil)))))
 .nil)))
def s__law_book_windows : List D → M D := runD 1 (evSs false ir__law_book_windows)
/-! is_pair : ['thing'] -/
def t_is_pair : Stmt := (top 7)
/-! is_integer : ['thing'] -/
def t_is_integer : Stmt := (top 5)
/-! is_within : ['thing', 'least', 'most'] -/
def t_is_within : Stmt := (top 6)
/-! is_window : ['thing'] -/
def t_is_window : Stmt := (top 11)
/-! Book.__init__ : ['self', 'windows', 'window'] -/
def t_Book_init : Stmt := (inC (top 12) 0)
/-! _law_row : ['_law_pool_here', '_law_works', '_law_left', '_law_k'] -/
def t__law_row : Stmt := (top 33)
/-! _law_middle : ['_law_windows_here', '_law_work'] -/
def t__law_middle : Stmt := (top 35)
def ir__law_middle : SIs :=
 (.cons (.ret [] (.bin .Add (.idx (.idx (.var 0) (.var 1)) (.cst (.int 0))) (.idx (.idx (.var 0) (.var 1)) (.cst (.int 1)))))
 .nil)
def s__law_middle : List D → M D := runD 0 (evSs false ir__law_middle)
/-! _law_by_middles : ['_law_pool_here', '_law_windows_here', '_law_works', '_law_found', '_law_middle_here', '_law_alike', '_law_work'] -/
def t__law_by_middles : Stmt := (top 37)
def ir__law_by_middles : SIs :=
 (.cons (.own [3, 5] 3 (.lst .nil))
 (.cons (.for [3, 5] (.one 4) (.seq (.sset (.comp [("_law_work", 6)] (.one 6) (.seq (.var 2)) .yes (.call "_law_middle" 2 s__law_middle (.cons (.var 1) (.cons (.var 6) .nil))))))
 (.cons (.own [3, 5] 5 (.comp [("_law_work", 6)] (.one 6) (.seq (.var 2)) (.cmp .Eq (.call "_law_middle" 2 s__law_middle (.cons (.var 1) (.cons (.var 6) .nil))) (.var 4)) (.var 6)))
 (.cons (.ext [3] 3 (.call "_law_row" 2 Pg.s__law_row (.cons (.var 0) (.cons (.var 5) .nil))))
 .nil)))
 (.cons (.ret [5] (.bi .tuple (.cons (.var 3) .nil)))
 .nil)))
def s__law_by_middles : List D → M D := runD 4 (evSs false ir__law_by_middles)
/-! _law_near_order : ['_law_pool_here', '_law_windows_here', '_law_works', '_law_way', '_law_found', '_law_one', '_law_two'] -/
def t__law_near_order : Stmt := (top 38)
def ir__law_near_order : SIs :=
 (.cons (.set [4] (.one 2) (.rg false (.cons (.bi .len (.cons (.var 1) .nil)) .nil)))
 (.cons (.set [4] (.one 3) (.call "_law_draw" 2 Pg.s__law_draw (.cons (.var 0) (.cons (.cst (.int 3)) .nil))))
 (.cons (.ifs (.cmp .Eq (.var 3) (.cst (.int 0)))
 (.cons (.ret [4] (.call "_law_row" 2 Pg.s__law_row (.cons (.var 0) (.cons (.var 2) .nil))))
 .nil)
 .nil)
 (.cons (.own [4] 4 (.bi .list (.cons (.call "_law_by_middles" 3 s__law_by_middles (.cons (.var 0) (.cons (.var 1) (.cons (.var 2) .nil)))) .nil)))
 (.cons (.ifs (.cmp .Eq (.var 3) (.cst (.int 1)))
 (.cons (.set [4] (.one 5) (.call "_law_draw" 2 Pg.s__law_draw (.cons (.var 0) (.cons (.bi .len (.cons (.var 2) .nil)) .nil))))
 (.cons (.set [4] (.one 6) (.call "_law_draw" 2 Pg.s__law_draw (.cons (.var 0) (.cons (.bi .len (.cons (.var 2) .nil)) .nil))))
 (.cons (.swp 4 5 6 (.tup (.cons (.idx (.var 4) (.var 6)) (.cons (.idx (.var 4) (.var 5)) .nil))))
 .nil)))
 .nil)
 (.cons (.ret [] (.bi .tuple (.cons (.var 4) .nil)))
 .nil))))))
def s__law_near_order : List D → M D := runD 5 (evSs false ir__law_near_order)
/-! _law_within : ['_law_windows_here', '_law_one', '_law_other'] -/
def t__law_within : Stmt := (top 34)
def ir__law_within : SIs :=
 (.cons (.ret [] (.and (.cmp .Lt (.idx (.idx (.var 0) (.var 2)) (.cst (.int 0))) (.idx (.idx (.var 0) (.var 1)) (.cst (.int 0)))) (.last (.cmp .Lt (.idx (.idx (.var 0) (.var 1)) (.cst (.int 1))) (.idx (.idx (.var 0) (.var 2)) (.cst (.int 1)))))))
 .nil)
def s__law_within : List D → M D := runD 0 (evSs false ir__law_within)
/-! _law_throws : ['_law_windows_here', '_law_order', '_law_found', '_law_i', '_law_a', '_law_j', '_law_b', '_law_front', '_law_back', '_law_c'] -/
def t__law_throws : Stmt := (top 36)
def ir__law_throws : SIs :=
 (.cons (.own [2] 2 (.lst .nil))
 (.cons (.for [2] (.one 3) (.rng1 (.bi .len (.cons (.var 1) .nil)))
 (.cons (.set [2] (.one 4) (.idx (.var 1) (.var 3)))
 (.cons (.for [2] (.one 5) (.rng1 (.bi .len (.cons (.var 1) .nil)))
 (.cons (.set [2] (.one 6) (.idx (.var 1) (.var 5)))
 (.cons (.ifs (.and (.cmp .Lt (.var 3) (.var 5)) (.last (.cmp .Gt (.call "_law_middle" 2 s__law_middle (.cons (.var 0) (.cons (.var 4) .nil))) (.call "_law_middle" 2 s__law_middle (.cons (.var 0) (.cons (.var 6) .nil))))))
 (.cons (.app [2] 2 (.tup (.cons (.cst (.str "middle")) (.cons (.var 4) (.cons (.var 6) .nil)))))
 .nil)
 .nil)
 (.cons (.ifs (.and (.cmp .NotEq (.var 3) (.var 5)) (.last (.call "_law_within" 3 s__law_within (.cons (.var 0) (.cons (.var 6) (.cons (.var 4) .nil))))))
 (.cons (.set [2] (.one 7) (.bin .Sub (.call "_law_middle" 2 s__law_middle (.cons (.var 0) (.cons (.var 6) .nil))) (.idx (.idx (.var 0) (.var 4)) (.cst (.int 0)))))
 (.cons (.set [2] (.one 8) (.bin .Sub (.call "_law_middle" 2 s__law_middle (.cons (.var 0) (.cons (.var 6) .nil))) (.idx (.idx (.var 0) (.var 4)) (.cst (.int 1)))))
 (.cons (.ext [2] 2 (.comp [("_law_c", 9)] (.one 9) (.seq (.slc (.var 1) (.bin .Add (.var 3) (.cst (.int 1))) .nop)) (.and (.cmp .Lt (.var 5) (.var 3)) (.last (.cmp .Lt (.idx (.idx (.var 0) (.var 9)) (.cst (.int 0))) (.var 7)))) (.tup (.cons (.cst (.str "front")) (.cons (.var 4) (.cons (.var 6) (.cons (.var 9) .nil)))))))
 (.cons (.ext [2] 2 (.comp [("_law_c", 9)] (.one 9) (.seq (.slc (.var 1) .nop (.var 3))) (.and (.cmp .Lt (.var 3) (.var 5)) (.last (.cmp .Gt (.idx (.idx (.var 0) (.var 9)) (.cst (.int 1))) (.var 8)))) (.tup (.cons (.cst (.str "back")) (.cons (.var 4) (.cons (.var 6) (.cons (.var 9) .nil)))))))
 .nil))))
 .nil)
 .nil))))
 .nil)))
 (.cons (.ret [] (.bi .sorted (.cons (.var 2) .nil)))
 .nil)))
def s__law_throws : List D → M D := runD 8 (evSs false ir__law_throws)
/-! _law_flag : ['_law_told', '_law_due'] -/
def t__law_flag : Stmt := (top 39)
/-! many_of : ['book'] -/
def t_many_of : Stmt := (top 13)
/-! is_work : ['book', 'thing'] -/
def t_is_work : Stmt := (top 18)
/-! is_row : ['book', 'thing', 'work'] -/
def t_is_row : Stmt := (top 19)
/-! is_order : ['book', 'thing'] -/
def t_is_order : Stmt := (top 20)
def ir_is_order : SIs :=
 (.cons (.ret [] (.and (.call "is_row" 2 Pg.s_is_row (.cons (.var 0) (.cons (.var 1) .nil))) (.last (.cmp .Eq (.bi .len (.cons (.var 1) .nil)) (.call "many_of" 1 Pg.s_many_of (.cons (.var 0) .nil))))))
 .nil)
def s_is_order : List D → M D := runD 0 (evSs false ir_is_order)
/-! first_of : ['book', 'work'] -/
def t_first_of : Stmt := (top 14)
/-! last_of : ['book', 'work'] -/
def t_last_of : Stmt := (top 15)
/-! lies_within : ['book', 'one', 'other'] -/
def t_lies_within : Stmt := (top 17)
def ir_lies_within : SIs :=
 (.cons (.ret [] (.and (.cmp .Lt (.call "first_of" 2 Pg.s_first_of (.cons (.var 0) (.cons (.var 2) .nil))) (.call "first_of" 2 Pg.s_first_of (.cons (.var 0) (.cons (.var 1) .nil)))) (.last (.cmp .Lt (.call "last_of" 2 Pg.s_last_of (.cons (.var 0) (.cons (.var 1) .nil))) (.call "last_of" 2 Pg.s_last_of (.cons (.var 0) (.cons (.var 2) .nil)))))))
 .nil)
def s_lies_within : List D → M D := runD 0 (evSs false ir_lies_within)
/-! middle_of : ['book', 'work'] -/
def t_middle_of : Stmt := (top 16)
def ir_middle_of : SIs :=
 (.cons (.ret [] (.bin .Add (.call "first_of" 2 Pg.s_first_of (.cons (.var 0) (.cons (.var 1) .nil))) (.call "last_of" 2 Pg.s_last_of (.cons (.var 0) (.cons (.var 1) .nil)))))
 .nil)
def s_middle_of : List D → M D := runD 0 (evSs false ir_middle_of)
/-! front_throws : ['book', 'order', 'place', 'work', 'found', 'other', 'bound', 'behind', 'third'] -/
def t_front_throws : Stmt := (top 24)
def ir_front_throws : SIs :=
 (.cons (.set [4, 7] (.one 3) (.idx (.var 1) (.var 2)))
 (.cons (.own [4, 7] 4 (.lst .nil))
 (.cons (.for [4, 7] (.one 5) (.seq (.slc (.var 1) .nop (.var 2)))
 (.cons (.ifs (.call "lies_within" 3 s_lies_within (.cons (.var 0) (.cons (.var 5) (.cons (.var 3) .nil))))
 (.cons (.set [4, 7] (.one 6) (.bin .Sub (.call "middle_of" 2 s_middle_of (.cons (.var 0) (.cons (.var 5) .nil))) (.call "first_of" 2 Pg.s_first_of (.cons (.var 0) (.cons (.var 3) .nil)))))
 (.cons (.own [4, 7] 7 (.comp [("third", 8)] (.one 8) (.seq (.slc (.var 1) (.bin .Add (.var 2) (.cst (.int 1))) .nop)) (.cmp .Lt (.call "first_of" 2 Pg.s_first_of (.cons (.var 0) (.cons (.var 8) .nil))) (.var 6)) (.var 8)))
 (.cons (.ext [4] 4 (.comp [("third", 8)] (.one 8) (.seq (.var 7)) .yes (.tup (.cons (.cst (.str "front")) (.cons (.var 3) (.cons (.var 5) (.cons (.var 8) .nil)))))))
 .nil)))
 .nil)
 .nil))
 (.cons (.ret [7] (.var 4))
 .nil))))
def s_front_throws : List D → M D := runD 6 (evSs false ir_front_throws)
/-! back_throws : ['book', 'order', 'place', 'work', 'found', 'other', 'bound', 'ahead', 'third'] -/
def t_back_throws : Stmt := (top 25)
def ir_back_throws : SIs :=
 (.cons (.set [4, 7] (.one 3) (.idx (.var 1) (.var 2)))
 (.cons (.own [4, 7] 4 (.lst .nil))
 (.cons (.for [4, 7] (.one 5) (.seq (.slc (.var 1) (.bin .Add (.var 2) (.cst (.int 1))) .nop))
 (.cons (.ifs (.call "lies_within" 3 s_lies_within (.cons (.var 0) (.cons (.var 5) (.cons (.var 3) .nil))))
 (.cons (.set [4, 7] (.one 6) (.bin .Sub (.call "middle_of" 2 s_middle_of (.cons (.var 0) (.cons (.var 5) .nil))) (.call "last_of" 2 Pg.s_last_of (.cons (.var 0) (.cons (.var 3) .nil)))))
 (.cons (.own [4, 7] 7 (.comp [("third", 8)] (.one 8) (.seq (.slc (.var 1) .nop (.var 2))) (.cmp .Gt (.call "last_of" 2 Pg.s_last_of (.cons (.var 0) (.cons (.var 8) .nil))) (.var 6)) (.var 8)))
 (.cons (.ext [4] 4 (.comp [("third", 8)] (.one 8) (.seq (.var 7)) .yes (.tup (.cons (.cst (.str "back")) (.cons (.var 3) (.cons (.var 5) (.cons (.var 8) .nil)))))))
 .nil)))
 .nil)
 .nil))
 (.cons (.ret [7] (.var 4))
 .nil))))
def s_back_throws : List D → M D := runD 6 (evSs false ir_back_throws)
def irN_middle_throws : SIs :=
 (.cons (.own [2] 2 (.lst .nil))
 (.cons (.for [2] (.many [3, 4]) (.enum (.var 1))
 (.cons (.for [2] (.one 5) (.seq (.slc (.var 1) (.bin .Add (.var 3) (.cst (.int 1))) .nop))
 (.cons (.ifs (.cmp .Gt (.call "middle_of" 2 s_middle_of (.cons (.var 0) (.cons (.var 4) .nil))) (.call "middle_of" 2 s_middle_of (.cons (.var 0) (.cons (.var 5) .nil))))
 (.cons (.app [2] 2 (.tup (.cons (.cst (.str "middle")) (.cons (.var 4) (.cons (.var 5) .nil)))))
 .nil)
 .nil)
 .nil))
 .nil))
 (.cons (.ret [] (.var 2))
 .nil)))
def sN_middle_throws : List D → M D := runN 4 (evSsN irN_middle_throws)
/-! all_throws : ['book', 'order', 'found', 'place'] -/
def t_all_throws : Stmt := (top 26)
def ir_all_throws : SIs :=
 (.cons (.own [2] 2 (.callN "middle_throws" 2 sN_middle_throws (.cons (.var 0) (.cons (.var 1) .nil))))
 (.cons (.for [2] (.one 3) (.rng1 (.bi .len (.cons (.var 1) .nil)))
 (.cons (.ext [2] 2 (.call "front_throws" 3 s_front_throws (.cons (.var 0) (.cons (.var 1) (.cons (.var 3) .nil)))))
 (.cons (.ext [2] 2 (.call "back_throws" 3 s_back_throws (.cons (.var 0) (.cons (.var 1) (.cons (.var 3) .nil)))))
 .nil)))
 (.cons (.ret [] (.bi .sorted (.cons (.var 2) .nil)))
 .nil)))
def s_all_throws : List D → M D := runD 2 (evSs false ir_all_throws)
/-! is_one_order : ['book', 'thing'] -/
def t_is_one_order : Stmt := (top 28)
def ir_is_one_order : SIs :=
 (.cons (.ret [] (.and (.call "is_order" 2 s_is_order (.cons (.var 0) (.cons (.var 1) .nil))) (.last (.cmp .Eq (.bi .len (.cons (.call "all_throws" 2 s_all_throws (.cons (.var 0) (.cons (.var 1) .nil))) .nil)) (.cst (.int 0))))))
 .nil)
def s_is_one_order : List D → M D := runD 0 (evSs false ir_is_one_order)
/-! check_order : ['book', 'thing'] -/
def t_check_order : Stmt := (top 21)
def ir_check_order : SIs :=
 (.cons (.ifs (.not (.call "is_order" 2 s_is_order (.cons (.var 0) (.cons (.var 1) .nil))))
 (.cons (.raise "NoOrder" 20)
 .nil)
 .nil)
 .nil)
def s_check_order : List D → M D := runD 0 (evSs false ir_check_order)
/-! throws : ['book', 'order'] -/
def t_throws : Stmt := (top 27)
def ir_throws : SIs :=
 (.cons (.drop [] (.call "check_order" 2 s_check_order (.cons (.var 0) (.cons (.var 1) .nil))))
 (.cons (.ret [] (.call "all_throws" 2 s_all_throws (.cons (.var 0) (.cons (.var 1) .nil))))
 .nil))
def s_throws : List D → M D := runD 0 (evSs false ir_throws)
def irN_all_throws : SIs :=
 (.cons (.own [2] 2 (.callN "middle_throws" 2 sN_middle_throws (.cons (.var 0) (.cons (.var 1) .nil))))
 (.cons (.for [2] (.one 3) (.rng1 (.bi .len (.cons (.var 1) .nil)))
 (.cons (.ext [2] 2 (.call "front_throws" 3 s_front_throws (.cons (.var 0) (.cons (.var 1) (.cons (.var 3) .nil)))))
 (.cons (.ext [2] 2 (.call "back_throws" 3 s_back_throws (.cons (.var 0) (.cons (.var 1) (.cons (.var 3) .nil)))))
 .nil)))
 (.cons (.ret [] (.bi .sorted (.cons (.var 2) .nil)))
 .nil)))
def sN_all_throws : List D → M D := runN 2 (evSsN irN_all_throws)
def irN_throws : SIs :=
 (.cons (.drop [] (.call "check_order" 2 s_check_order (.cons (.var 0) (.cons (.var 1) .nil))))
 (.cons (.ret [] (.callN "all_throws" 2 sN_all_throws (.cons (.var 0) (.cons (.var 1) .nil))))
 .nil))
def sN_throws : List D → M D := runN 0 (evSsN irN_throws)
/-! middle_throws : ['book', 'order', 'found', 'place', 'work', 'other'] -/
def t_middle_throws : Stmt := (top 23)
def ir_middle_throws : SIs :=
 (.cons (.own [2] 2 (.lst .nil))
 (.cons (.for [2] (.many [3, 4]) (.enum (.var 1))
 (.cons (.for [2] (.one 5) (.seq (.slc (.var 1) (.bin .Add (.var 3) (.cst (.int 1))) .nop))
 (.cons (.ifs (.cmp .Gt (.call "middle_of" 2 s_middle_of (.cons (.var 0) (.cons (.var 4) .nil))) (.call "middle_of" 2 s_middle_of (.cons (.var 0) (.cons (.var 5) .nil))))
 (.cons (.app [2] 2 (.tup (.cons (.cst (.str "middle")) (.cons (.var 4) (.cons (.var 5) .nil)))))
 .nil)
 .nil)
 .nil))
 .nil))
 (.cons (.ret [] (.var 2))
 .nil)))
def s_middle_throws : List D → M D := runD 4 (evSs false ir_middle_throws)
/-! law : ['_law_script', '_law_pool_here', '_law_turn', '_law_many', '_law_windows_here', '_law_book', '_law_order', '_law_due', '_law_told'] -/
def t_law : Stmt := (top 42)
def ir_law : SIs :=
 (.cons (.set [8] (.one 1) (.call "_law_pool" 1 Pg.s__law_pool (.cons (.var 0) .nil)))
 (.cons (.for [8] (.one 2) (.rng1 (.cst (.int 4)))
 (.cons (.set [8] (.one 3) (.bin .Add (.cst (.int 1)) (.call "_law_draw" 2 Pg.s__law_draw (.cons (.var 1) (.cons (.idx (.lst (.cons (.cst (.int 7)) (.cons (.cst (.int 7)) (.cons (.cst (.int 7)) (.cons (.cst (.int 12)) .nil))))) (.var 2)) .nil)))))
 (.cons (.ifs (.and (.cmp .Eq (.var 2) (.cst (.int 3))) (.last (.cmp .Eq (.call "_law_draw" 2 Pg.s__law_draw (.cons (.var 1) (.cons (.cst (.int 8)) .nil))) (.cst (.int 0)))))
 (.cons (.set [8] (.one 3) (.cst (.int 40)))
 .nil)
 .nil)
 (.cons (.set [8] (.one 4) (.call "_law_book_windows" 2 s__law_book_windows (.cons (.var 1) (.cons (.var 3) .nil))))
 (.cons (.set [8] (.one 5) (.make "Book" 0 1 Pg.s_Book_init (.cons (.var 4) .nil)))
 (.cons (.set [8] (.one 6) (.call "_law_near_order" 2 s__law_near_order (.cons (.var 1) (.cons (.var 4) .nil))))
 (.cons (.set [8] (.one 7) (.call "_law_throws" 2 s__law_throws (.cons (.var 4) (.cons (.var 6) .nil))))
 (.cons (.own [8] 8 (.callN "throws" 2 sN_throws (.cons (.var 5) (.cons (.var 6) .nil))))
 (.cons (.ifs (.or (.not (.isi (.cons (.var 8) (.cons (.tyn "list") .nil)))) (.or (.cmp .NotEq (.var 8) (.var 7)) (.last (.cmp .NotEq (.rep (.var 8)) (.rep (.var 7))))))
 (.cons (.ret [8] (.cst (.bl false)))
 .nil)
 .nil)
 (.cons (.ifs (.not (.call "_law_flag" 2 Pg.s__law_flag (.cons (.call "is_one_order" 2 s_is_one_order (.cons (.var 5) (.cons (.var 6) .nil))) (.cons (.cmp .Eq (.bi .len (.cons (.var 7) .nil)) (.cst (.int 0))) .nil))))
 (.cons (.ret [8] (.cst (.bl false)))
 .nil)
 .nil)
 (.cons (.app [8] 8 (.cst .non))
 (.cons (.ifs (.cmp .NotEq (.call "throws" 2 s_throws (.cons (.var 5) (.cons (.var 6) .nil))) (.var 7))
 (.cons (.ret [8] (.cst (.bl false)))
 .nil)
 .nil)
 .nil))))))))))))
 (.cons (.ret [8] (.cst (.bl true)))
 .nil)))
def s_law : List D → M D := runD 8 (evSs false ir_law)
abbrev nmL : List Str := (["Book", "RawBook", "Alike", "Walk", "Tour", "Holding", "Table", "Judge", "Held", "Loads", "Spans", "Seer", "Bench", "Desk", "BadBook", "NoWork", "NoLot", "NoGroup", "NoNumber", "NoRow"] : List Str) ++ (["NoOrder", "NoPrices", "NoBounds", "Over", "NoLength", "NothingDone", "NoLine", "TooMany", "NoRule", "TooLate", "BadText", "NoName", "MiddleError"] : List Str)
def nm (i : Nat) : Str := nmL.getD i ""
def T : Tx := ⟨[(0, "kept_windows"), (0, "windows")], [("MOST_WORKS", 40), ("MOST_HOUR", 1000000)], [("MiddleError", 32), ("BadBook", 14), ("NoOrder", 20)], []⟩
def d__law_pool : He.DefD := ⟨("_law_pool", none), "_law_pool", "_law_pool", defArgs t__law_pool, defBody t__law_pool, defScope t__law_pool, [], []⟩
def d__law_draw : He.DefD := ⟨("_law_draw", none), "_law_draw", "_law_draw", defArgs t__law_draw, defBody t__law_draw, defScope t__law_draw, [], []⟩
def d__law_nested : He.DefD := ⟨("_law_nested", none), "_law_nested", "_law_nested", defArgs t__law_nested, defBody t__law_nested, defScope t__law_nested, [], []⟩
def d__law_windows : He.DefD := ⟨("_law_windows", none), "_law_windows", "_law_windows", defArgs t__law_windows, defBody t__law_windows, defScope t__law_windows, [], []⟩
def d__law_book_windows : He.DefD := ⟨("_law_book_windows", none), "_law_book_windows", "_law_book_windows", defArgs t__law_book_windows, defBody t__law_book_windows, defScope t__law_book_windows, [], []⟩
def d_is_pair : He.DefD := ⟨("is_pair", none), "is_pair", "is_pair", defArgs t_is_pair, defBody t_is_pair, defScope t_is_pair, [], []⟩
def d_is_integer : He.DefD := ⟨("is_integer", none), "is_integer", "is_integer", defArgs t_is_integer, defBody t_is_integer, defScope t_is_integer, [], []⟩
def d_is_within : He.DefD := ⟨("is_within", none), "is_within", "is_within", defArgs t_is_within, defBody t_is_within, defScope t_is_within, [], []⟩
def d_is_window : He.DefD := ⟨("is_window", none), "is_window", "is_window", defArgs t_is_window, defBody t_is_window, defScope t_is_window, [], []⟩
def d_Book_init : He.DefD := ⟨("Book", some "__init__"), "__init__", "Book.__init__", defArgs t_Book_init, defBody t_Book_init, defScope t_Book_init, [], []⟩
def d__law_row : He.DefD := ⟨("_law_row", none), "_law_row", "_law_row", defArgs t__law_row, defBody t__law_row, defScope t__law_row, [], []⟩
def d__law_middle : He.DefD := ⟨("_law_middle", none), "_law_middle", "_law_middle", defArgs t__law_middle, defBody t__law_middle, defScope t__law_middle, [], []⟩
def d__law_by_middles : He.DefD := ⟨("_law_by_middles", none), "_law_by_middles", "_law_by_middles", defArgs t__law_by_middles, defBody t__law_by_middles, defScope t__law_by_middles, [], []⟩
def d__law_near_order : He.DefD := ⟨("_law_near_order", none), "_law_near_order", "_law_near_order", defArgs t__law_near_order, defBody t__law_near_order, defScope t__law_near_order, [], []⟩
def d__law_within : He.DefD := ⟨("_law_within", none), "_law_within", "_law_within", defArgs t__law_within, defBody t__law_within, defScope t__law_within, [], []⟩
def d__law_throws : He.DefD := ⟨("_law_throws", none), "_law_throws", "_law_throws", defArgs t__law_throws, defBody t__law_throws, defScope t__law_throws, [], []⟩
def d__law_flag : He.DefD := ⟨("_law_flag", none), "_law_flag", "_law_flag", defArgs t__law_flag, defBody t__law_flag, defScope t__law_flag, [], []⟩
def d_many_of : He.DefD := ⟨("many_of", none), "many_of", "many_of", defArgs t_many_of, defBody t_many_of, defScope t_many_of, [], []⟩
def d_is_work : He.DefD := ⟨("is_work", none), "is_work", "is_work", defArgs t_is_work, defBody t_is_work, defScope t_is_work, [], []⟩
def d_is_row : He.DefD := ⟨("is_row", none), "is_row", "is_row", defArgs t_is_row, defBody t_is_row, defScope t_is_row, [], []⟩
def d_is_order : He.DefD := ⟨("is_order", none), "is_order", "is_order", defArgs t_is_order, defBody t_is_order, defScope t_is_order, [], []⟩
def d_first_of : He.DefD := ⟨("first_of", none), "first_of", "first_of", defArgs t_first_of, defBody t_first_of, defScope t_first_of, [], []⟩
def d_last_of : He.DefD := ⟨("last_of", none), "last_of", "last_of", defArgs t_last_of, defBody t_last_of, defScope t_last_of, [], []⟩
def d_lies_within : He.DefD := ⟨("lies_within", none), "lies_within", "lies_within", defArgs t_lies_within, defBody t_lies_within, defScope t_lies_within, [], []⟩
def d_middle_of : He.DefD := ⟨("middle_of", none), "middle_of", "middle_of", defArgs t_middle_of, defBody t_middle_of, defScope t_middle_of, [], []⟩
def d_front_throws : He.DefD := ⟨("front_throws", none), "front_throws", "front_throws", defArgs t_front_throws, defBody t_front_throws, defScope t_front_throws, [], []⟩
def d_back_throws : He.DefD := ⟨("back_throws", none), "back_throws", "back_throws", defArgs t_back_throws, defBody t_back_throws, defScope t_back_throws, [], []⟩
def d_all_throws : He.DefD := ⟨("all_throws", none), "all_throws", "all_throws", defArgs t_all_throws, defBody t_all_throws, defScope t_all_throws, [], []⟩
def d_is_one_order : He.DefD := ⟨("is_one_order", none), "is_one_order", "is_one_order", defArgs t_is_one_order, defBody t_is_one_order, defScope t_is_one_order, [], []⟩
def d_check_order : He.DefD := ⟨("check_order", none), "check_order", "check_order", defArgs t_check_order, defBody t_check_order, defScope t_check_order, [], []⟩
def d_throws : He.DefD := ⟨("throws", none), "throws", "throws", defArgs t_throws, defBody t_throws, defScope t_throws, [], []⟩
def d_middle_throws : He.DefD := ⟨("middle_throws", none), "middle_throws", "middle_throws", defArgs t_middle_throws, defBody t_middle_throws, defScope t_middle_throws, [], []⟩
def d_law : He.DefD := ⟨("law", none), "law", "law", defArgs t_law, defBody t_law, defScope t_law, [], []⟩
def fn : List He.DefD := ([d__law_pool, d__law_draw, d__law_nested, d__law_windows, d__law_book_windows, d_is_pair, d_is_integer, d_is_within, d_is_window, d_Book_init, d__law_row, d__law_middle, d__law_by_middles, d__law_near_order, d__law_within, d__law_throws, d__law_flag, d_many_of, d_is_work, d_is_row] : List He.DefD) ++ ([d_is_order, d_first_of, d_last_of, d_lies_within, d_middle_of, d_front_throws, d_back_throws, d_all_throws, d_is_one_order, d_check_order, d_throws, d_middle_throws, d_law] : List He.DefD)
def fa : List He.Fa := ([.glo "_law_pool", .glo "_law_draw", .glo "_law_nested", .glo "_law_windows", .glo "_law_book_windows", .glo "is_pair", .glo "is_integer", .glo "is_within", .glo "is_window", .glo "_law_row", .glo "_law_middle", .glo "_law_by_middles", .glo "_law_near_order", .glo "_law_within", .glo "_law_throws", .glo "_law_flag", .glo "many_of", .glo "is_work", .glo "is_row", .glo "is_order"] : List He.Fa) ++ ([.glo "first_of", .glo "last_of", .glo "lies_within", .glo "middle_of", .glo "front_throws", .glo "back_throws", .glo "all_throws", .glo "is_one_order", .glo "check_order", .glo "throws", .glo "middle_throws", .glo "law", .glo "Book", .mkr "Book", .cls "Book", .noat "Book" "kept_windows", .noat "Book" "windows", .glo "MiddleError", .exc "MiddleError", .glo "BadBook"] : List He.Fa) ++ ([.exc "BadBook", .glo "NoOrder", .exc "NoOrder", .int "MOST_WORKS" 40, .int "MOST_HOUR" 1000000, .free "len", .free "max", .free "min", .free "sum", .free "all", .free "any", .free "abs", .free "int", .free "tuple", .free "list", .free "sorted", .free "isinstance", .free "range", .free "zip", .free "bool"] : List He.Fa) ++ ([.free "str", .free "dict", .free "enumerate", .free "reversed", .free "set", .free "repr"] : List He.Fa)
def exf (K : PySem.W.Frag) : Bool := true
abbrev R : PySem.W.OpenRow := PySem.W.OpenLaw.row PySem.Challenge.rw_bymiddles_k37_whole_throws_by_all_threes
abbrev hk : PySem.W.Hook := hookR 4 fa fn exf
def ob (s : PySem.W.SharedT) : AlR := obsR 4 fa fn exf (HandSHeadRun.getT s)
theorem ob_eq (s : PySem.W.SharedT) : ob s = hk.obs s.abs := obsR_eq (HandSHeadRun.getT_eq s)
def names : List Str := (["MiddleError", "BadBook", "NoOrder", "is_integer", "is_within", "is_pair", "MOST_WORKS", "MOST_HOUR", "is_window", "Book", "many_of", "first_of", "last_of", "middle_of", "lies_within", "is_work", "is_row", "is_order", "check_order", "middle_throws"] : List Str) ++ (["front_throws", "back_throws", "all_throws", "throws", "is_one_order", "_law_pool", "_law_draw", "_law_windows", "_law_row", "_law_within", "_law_middle", "_law_throws", "_law_by_middles", "_law_near_order", "_law_flag", "_law_nested", "_law_book_windows"] : List Str)
theorem run (w : World) : HandSHeadRun.RunEq R (PySem.W.view R.prog [42]) hk ob 2580 names w := by
  intro os
  kernel_rfl
theorem sc__law_pool : FnScope ["_law_script", "_law_seed", "_law_cell"] ["_law_script"] (defScope t__law_pool) := ⟨rfl, rfl, rfl, by decide +kernel, rfl, by decide +kernel, by decide +kernel⟩
theorem ck__law_pool : chkSs T ["_law_script", "_law_seed", "_law_cell"] (defScope t__law_pool) (fun _ => true) Pg.ir__law_pool (defBody t__law_pool) = true := by decide +kernel
theorem sc__law_draw : FnScope ["_law_pool_here", "_law_many", "_law_cells", "_law_mixed", "_law_digit"] ["_law_pool_here", "_law_many"] (defScope t__law_draw) := ⟨rfl, rfl, rfl, by decide +kernel, rfl, by decide +kernel, by decide +kernel⟩
theorem ck__law_draw : chkSs T ["_law_pool_here", "_law_many", "_law_cells", "_law_mixed", "_law_digit"] (defScope t__law_draw) (fun _ => true) Pg.ir__law_draw (defBody t__law_draw) = true := by decide +kernel
theorem sc__law_nested : FnScope ["_law_pool_here", "_law_many", "_law_top", "_law_found", "_law_middle_here", "_law_k", "_law_one", "_law_other"] ["_law_pool_here", "_law_many", "_law_top"] (defScope t__law_nested) := ⟨rfl, rfl, rfl, by decide +kernel, rfl, by decide +kernel, by decide +kernel⟩
theorem ck__law_nested : chkSs T ["_law_pool_here", "_law_many", "_law_top", "_law_found", "_law_middle_here", "_law_k", "_law_one", "_law_other"] (defScope t__law_nested) (fun _ => true) ir__law_nested (defBody t__law_nested) = true := by decide +kernel
theorem sc__law_windows : FnScope ["_law_pool_here", "_law_many", "_law_top", "_law_kind", "_law_found", "_law_middle_here", "_law_k", "_law_one", "_law_other"] ["_law_pool_here", "_law_many", "_law_top"] (defScope t__law_windows) := ⟨rfl, rfl, rfl, by decide +kernel, rfl, by decide +kernel, by decide +kernel⟩
theorem ck__law_windows : chkSs T ["_law_pool_here", "_law_many", "_law_top", "_law_kind", "_law_found", "_law_middle_here", "_law_k", "_law_one", "_law_other"] (defScope t__law_windows) (fun _ => true) Pg.ir__law_windows (defBody t__law_windows) = true := by decide +kernel
theorem sc__law_book_windows : FnScope ["_law_pool_here", "_law_many", "_law_top"] ["_law_pool_here", "_law_many"] (defScope t__law_book_windows) := ⟨rfl, rfl, rfl, by decide +kernel, rfl, by decide +kernel, by decide +kernel⟩
theorem ck__law_book_windows : chkSs T ["_law_pool_here", "_law_many", "_law_top"] (defScope t__law_book_windows) (fun _ => true) ir__law_book_windows (defBody t__law_book_windows) = true := by decide +kernel
theorem sc_is_pair : FnScope ["thing"] ["thing"] (defScope t_is_pair) := ⟨rfl, rfl, rfl, by decide +kernel, rfl, by decide +kernel, by decide +kernel⟩
theorem ck_is_pair : chkSs T ["thing"] (defScope t_is_pair) (fun _ => true) Pg.ir_is_pair (defBody t_is_pair) = true := by decide +kernel
theorem sc_is_integer : FnScope ["thing"] ["thing"] (defScope t_is_integer) := ⟨rfl, rfl, rfl, by decide +kernel, rfl, by decide +kernel, by decide +kernel⟩
theorem ck_is_integer : chkSs T ["thing"] (defScope t_is_integer) (fun _ => true) Pg.ir_is_integer (defBody t_is_integer) = true := by decide +kernel
theorem sc_is_within : FnScope ["thing", "least", "most"] ["thing", "least", "most"] (defScope t_is_within) := ⟨rfl, rfl, rfl, by decide +kernel, rfl, by decide +kernel, by decide +kernel⟩
theorem ck_is_within : chkSs T ["thing", "least", "most"] (defScope t_is_within) (fun _ => true) Pg.ir_is_within (defBody t_is_within) = true := by decide +kernel
theorem sc_is_window : FnScope ["thing"] ["thing"] (defScope t_is_window) := ⟨rfl, rfl, rfl, by decide +kernel, rfl, by decide +kernel, by decide +kernel⟩
theorem ck_is_window : chkSs T ["thing"] (defScope t_is_window) (fun _ => true) Pg.ir_is_window (defBody t_is_window) = true := by decide +kernel
theorem sc_Book_init : FnScope ["self", "windows", "window"] ["self", "windows"] (defScope t_Book_init) := ⟨rfl, rfl, rfl, by decide +kernel, rfl, by decide +kernel, by decide +kernel⟩
theorem ck_Book_init : chkSs T ["self", "windows", "window"] (defScope t_Book_init) (fun _ => true) Pg.ir_Book_init (defBody t_Book_init) = true := by decide +kernel
theorem sc__law_row : FnScope ["_law_pool_here", "_law_works", "_law_left", "_law_k"] ["_law_pool_here", "_law_works"] (defScope t__law_row) := ⟨rfl, rfl, rfl, by decide +kernel, rfl, by decide +kernel, by decide +kernel⟩
theorem ck__law_row : chkSs T ["_law_pool_here", "_law_works", "_law_left", "_law_k"] (defScope t__law_row) (fun _ => true) Pg.ir__law_row (defBody t__law_row) = true := by decide +kernel
theorem sc__law_middle : FnScope ["_law_windows_here", "_law_work"] ["_law_windows_here", "_law_work"] (defScope t__law_middle) := ⟨rfl, rfl, rfl, by decide +kernel, rfl, by decide +kernel, by decide +kernel⟩
theorem ck__law_middle : chkSs T ["_law_windows_here", "_law_work"] (defScope t__law_middle) (fun _ => true) ir__law_middle (defBody t__law_middle) = true := by decide +kernel
theorem sc__law_by_middles : FnScope ["_law_pool_here", "_law_windows_here", "_law_works", "_law_found", "_law_middle_here", "_law_alike", "_law_work"] ["_law_pool_here", "_law_windows_here", "_law_works"] (defScope t__law_by_middles) := ⟨rfl, rfl, rfl, by decide +kernel, rfl, by decide +kernel, by decide +kernel⟩
theorem ck__law_by_middles : chkSs T ["_law_pool_here", "_law_windows_here", "_law_works", "_law_found", "_law_middle_here", "_law_alike", "_law_work"] (defScope t__law_by_middles) (fun _ => true) ir__law_by_middles (defBody t__law_by_middles) = true := by decide +kernel
theorem sc__law_near_order : FnScope ["_law_pool_here", "_law_windows_here", "_law_works", "_law_way", "_law_found", "_law_one", "_law_two"] ["_law_pool_here", "_law_windows_here"] (defScope t__law_near_order) := ⟨rfl, rfl, rfl, by decide +kernel, rfl, by decide +kernel, by decide +kernel⟩
theorem ck__law_near_order : chkSs T ["_law_pool_here", "_law_windows_here", "_law_works", "_law_way", "_law_found", "_law_one", "_law_two"] (defScope t__law_near_order) (fun _ => true) ir__law_near_order (defBody t__law_near_order) = true := by decide +kernel
theorem sc__law_within : FnScope ["_law_windows_here", "_law_one", "_law_other"] ["_law_windows_here", "_law_one", "_law_other"] (defScope t__law_within) := ⟨rfl, rfl, rfl, by decide +kernel, rfl, by decide +kernel, by decide +kernel⟩
theorem ck__law_within : chkSs T ["_law_windows_here", "_law_one", "_law_other"] (defScope t__law_within) (fun _ => true) ir__law_within (defBody t__law_within) = true := by decide +kernel
theorem sc__law_throws : FnScope ["_law_windows_here", "_law_order", "_law_found", "_law_i", "_law_a", "_law_j", "_law_b", "_law_front", "_law_back", "_law_c"] ["_law_windows_here", "_law_order"] (defScope t__law_throws) := ⟨rfl, rfl, rfl, by decide +kernel, rfl, by decide +kernel, by decide +kernel⟩
theorem ck__law_throws : chkSs T ["_law_windows_here", "_law_order", "_law_found", "_law_i", "_law_a", "_law_j", "_law_b", "_law_front", "_law_back", "_law_c"] (defScope t__law_throws) (fun _ => true) ir__law_throws (defBody t__law_throws) = true := by decide +kernel
theorem sc__law_flag : FnScope ["_law_told", "_law_due"] ["_law_told", "_law_due"] (defScope t__law_flag) := ⟨rfl, rfl, rfl, by decide +kernel, rfl, by decide +kernel, by decide +kernel⟩
theorem ck__law_flag : chkSs T ["_law_told", "_law_due"] (defScope t__law_flag) (fun _ => true) Pg.ir__law_flag (defBody t__law_flag) = true := by decide +kernel
theorem sc_many_of : FnScope ["book"] ["book"] (defScope t_many_of) := ⟨rfl, rfl, rfl, by decide +kernel, rfl, by decide +kernel, by decide +kernel⟩
theorem ck_many_of : chkSs T ["book"] (defScope t_many_of) (fun _ => true) Pg.ir_many_of (defBody t_many_of) = true := by decide +kernel
theorem sc_is_work : FnScope ["book", "thing"] ["book", "thing"] (defScope t_is_work) := ⟨rfl, rfl, rfl, by decide +kernel, rfl, by decide +kernel, by decide +kernel⟩
theorem ck_is_work : chkSs T ["book", "thing"] (defScope t_is_work) (fun _ => true) Pg.ir_is_work (defBody t_is_work) = true := by decide +kernel
theorem sc_is_row : FnScope ["book", "thing", "work"] ["book", "thing"] (defScope t_is_row) := ⟨rfl, rfl, rfl, by decide +kernel, rfl, by decide +kernel, by decide +kernel⟩
theorem ck_is_row : chkSs T ["book", "thing", "work"] (defScope t_is_row) (fun _ => true) Pg.ir_is_row (defBody t_is_row) = true := by decide +kernel
theorem sc_is_order : FnScope ["book", "thing"] ["book", "thing"] (defScope t_is_order) := ⟨rfl, rfl, rfl, by decide +kernel, rfl, by decide +kernel, by decide +kernel⟩
theorem ck_is_order : chkSs T ["book", "thing"] (defScope t_is_order) (fun _ => true) ir_is_order (defBody t_is_order) = true := by decide +kernel
theorem sc_first_of : FnScope ["book", "work"] ["book", "work"] (defScope t_first_of) := ⟨rfl, rfl, rfl, by decide +kernel, rfl, by decide +kernel, by decide +kernel⟩
theorem ck_first_of : chkSs T ["book", "work"] (defScope t_first_of) (fun _ => true) Pg.ir_first_of (defBody t_first_of) = true := by decide +kernel
theorem sc_last_of : FnScope ["book", "work"] ["book", "work"] (defScope t_last_of) := ⟨rfl, rfl, rfl, by decide +kernel, rfl, by decide +kernel, by decide +kernel⟩
theorem ck_last_of : chkSs T ["book", "work"] (defScope t_last_of) (fun _ => true) Pg.ir_last_of (defBody t_last_of) = true := by decide +kernel
theorem sc_lies_within : FnScope ["book", "one", "other"] ["book", "one", "other"] (defScope t_lies_within) := ⟨rfl, rfl, rfl, by decide +kernel, rfl, by decide +kernel, by decide +kernel⟩
theorem ck_lies_within : chkSs T ["book", "one", "other"] (defScope t_lies_within) (fun _ => true) ir_lies_within (defBody t_lies_within) = true := by decide +kernel
theorem sc_middle_of : FnScope ["book", "work"] ["book", "work"] (defScope t_middle_of) := ⟨rfl, rfl, rfl, by decide +kernel, rfl, by decide +kernel, by decide +kernel⟩
theorem ck_middle_of : chkSs T ["book", "work"] (defScope t_middle_of) (fun _ => true) ir_middle_of (defBody t_middle_of) = true := by decide +kernel
theorem sc_front_throws : FnScope ["book", "order", "place", "work", "found", "other", "bound", "behind", "third"] ["book", "order", "place"] (defScope t_front_throws) := ⟨rfl, rfl, rfl, by decide +kernel, rfl, by decide +kernel, by decide +kernel⟩
theorem ck_front_throws : chkSs T ["book", "order", "place", "work", "found", "other", "bound", "behind", "third"] (defScope t_front_throws) (fun _ => true) ir_front_throws (defBody t_front_throws) = true := by decide +kernel
theorem sc_back_throws : FnScope ["book", "order", "place", "work", "found", "other", "bound", "ahead", "third"] ["book", "order", "place"] (defScope t_back_throws) := ⟨rfl, rfl, rfl, by decide +kernel, rfl, by decide +kernel, by decide +kernel⟩
theorem ck_back_throws : chkSs T ["book", "order", "place", "work", "found", "other", "bound", "ahead", "third"] (defScope t_back_throws) (fun _ => true) ir_back_throws (defBody t_back_throws) = true := by decide +kernel
theorem sc_all_throws : FnScope ["book", "order", "found", "place"] ["book", "order"] (defScope t_all_throws) := ⟨rfl, rfl, rfl, by decide +kernel, rfl, by decide +kernel, by decide +kernel⟩
theorem ck_all_throws : chkSs T ["book", "order", "found", "place"] (defScope t_all_throws) (fun _ => true) ir_all_throws (defBody t_all_throws) = true := by decide +kernel
theorem ckN_all_throws : chkSs T ["book", "order", "found", "place"] (defScope t_all_throws) (fun _ => true) irN_all_throws (defBody t_all_throws) = true := by decide +kernel
theorem sc_is_one_order : FnScope ["book", "thing"] ["book", "thing"] (defScope t_is_one_order) := ⟨rfl, rfl, rfl, by decide +kernel, rfl, by decide +kernel, by decide +kernel⟩
theorem ck_is_one_order : chkSs T ["book", "thing"] (defScope t_is_one_order) (fun _ => true) ir_is_one_order (defBody t_is_one_order) = true := by decide +kernel
theorem sc_check_order : FnScope ["book", "thing"] ["book", "thing"] (defScope t_check_order) := ⟨rfl, rfl, rfl, by decide +kernel, rfl, by decide +kernel, by decide +kernel⟩
theorem ck_check_order : chkSs T ["book", "thing"] (defScope t_check_order) (fun _ => true) ir_check_order (defBody t_check_order) = true := by decide +kernel
theorem sc_throws : FnScope ["book", "order"] ["book", "order"] (defScope t_throws) := ⟨rfl, rfl, rfl, by decide +kernel, rfl, by decide +kernel, by decide +kernel⟩
theorem ck_throws : chkSs T ["book", "order"] (defScope t_throws) (fun _ => true) ir_throws (defBody t_throws) = true := by decide +kernel
theorem ckN_throws : chkSs T ["book", "order"] (defScope t_throws) (fun _ => true) irN_throws (defBody t_throws) = true := by decide +kernel
theorem sc_middle_throws : FnScope ["book", "order", "found", "place", "work", "other"] ["book", "order"] (defScope t_middle_throws) := ⟨rfl, rfl, rfl, by decide +kernel, rfl, by decide +kernel, by decide +kernel⟩
theorem ck_middle_throws : chkSs T ["book", "order", "found", "place", "work", "other"] (defScope t_middle_throws) (fun _ => true) ir_middle_throws (defBody t_middle_throws) = true := by decide +kernel
theorem ckN_middle_throws : chkSs T ["book", "order", "found", "place", "work", "other"] (defScope t_middle_throws) (fun _ => true) irN_middle_throws (defBody t_middle_throws) = true := by decide +kernel
theorem sc_law : FnScope ["_law_script", "_law_pool_here", "_law_turn", "_law_many", "_law_windows_here", "_law_book", "_law_order", "_law_due", "_law_told"] ["_law_script"] (defScope t_law) := ⟨rfl, rfl, rfl, by decide +kernel, rfl, by decide +kernel, by decide +kernel⟩
theorem ck_law : chkSs T ["_law_script", "_law_pool_here", "_law_turn", "_law_many", "_law_windows_here", "_law_book", "_law_order", "_law_due", "_law_told"] (defScope t_law) (fun _ => true) ir_law (defBody t_law) = true := by decide +kernel
section
variable {P : Program} {w : World} {K : PySem.W.Frag} {h : Heap} {mg : Str → Option Value} {base : Heap} (X : K.In h) (G : h.Ns mainGlobals mg) (c : He.SaysD fa fn K)
include X G c
theorem TX : Txt T (SX K nm) mg := txt_of c X G (by decide +kernel)
variable (ce : exf K = true)
include ce
theorem n__law_pool : knSs (KnAt P w mg base (SX K nm) 0) Pg.ir__law_pool :=
  (And.intro (And.intro (And.intro (And.intro (And.intro (And.intro (And.intro True.intro (And.intro True.intro True.intro)) True.intro) True.intro) True.intro) (And.intro True.intro True.intro)) True.intro) (And.intro (And.intro (And.intro True.intro (And.intro True.intro True.intro)) (And.intro (And.intro (And.intro (And.intro (And.intro (And.intro True.intro True.intro) (And.intro (And.intro True.intro True.intro) True.intro)) True.intro) True.intro) True.intro) True.intro)) (And.intro (And.intro True.intro (And.intro True.intro (And.intro (And.intro True.intro (And.intro True.intro True.intro)) (And.intro (And.intro (And.intro True.intro True.intro) (And.intro True.intro True.intro)) (And.intro True.intro True.intro))))) True.intro)))
theorem k__law_pool : Known P w (SX K nm) mg base 1 "_law_pool" 1 Pg.s__law_pool := by
  obtain ⟨fd, F⟩ := c.def_ 0 (d := d__law_pool) rfl
  have F : FunD (SX K nm).K "_law_pool" "_law_pool" (defArgs t__law_pool) (defBody t__law_pool) (defScope t__law_pool) [] [] (He.fAd K ("_law_pool", none)) fd := F
  exact known_of (lev := 0) (N := ["_law_script", "_law_seed", "_law_cell"]) (ps := ["_law_script"]) (TX X G c) F sc__law_pool (byGlo c X G (by decide +kernel)) rfl rfl (F.bindsN fun _ _ _ _ _ _ us hl => match us, hl with | [_], _ => rfl) ck__law_pool (n__law_pool X G c ce)
theorem n__law_draw : knSs (KnAt P w mg base (SX K nm) 0) Pg.ir__law_draw :=
  (And.intro (And.intro (And.intro True.intro True.intro) True.intro) (And.intro (And.intro True.intro True.intro) (And.intro (And.intro (And.intro True.intro True.intro) (And.intro (And.intro (And.intro (And.intro (And.intro True.intro True.intro) True.intro) True.intro) (And.intro (And.intro (And.intro (And.intro True.intro True.intro) True.intro) True.intro) (And.intro (And.intro (And.intro (And.intro True.intro True.intro) True.intro) (And.intro (And.intro True.intro True.intro) True.intro)) (And.intro True.intro True.intro)))) True.intro)) (And.intro (And.intro (And.intro (And.intro (And.intro (And.intro True.intro True.intro) (And.intro True.intro (And.intro True.intro True.intro))) True.intro) True.intro) True.intro) (And.intro (And.intro (And.intro (And.intro True.intro (And.intro (And.intro True.intro True.intro) True.intro)) True.intro) True.intro) (And.intro (And.intro (And.intro (And.intro True.intro (And.intro (And.intro True.intro True.intro) True.intro)) True.intro) True.intro) (And.intro (And.intro (And.intro (And.intro True.intro True.intro) True.intro) True.intro) True.intro)))))))
theorem k__law_draw : Known P w (SX K nm) mg base 1 "_law_draw" 2 Pg.s__law_draw := by
  obtain ⟨fd, F⟩ := c.def_ 1 (d := d__law_draw) rfl
  have F : FunD (SX K nm).K "_law_draw" "_law_draw" (defArgs t__law_draw) (defBody t__law_draw) (defScope t__law_draw) [] [] (He.fAd K ("_law_draw", none)) fd := F
  exact known_of (lev := 0) (N := ["_law_pool_here", "_law_many", "_law_cells", "_law_mixed", "_law_digit"]) (ps := ["_law_pool_here", "_law_many"]) (TX X G c) F sc__law_draw (byGlo c X G (by decide +kernel)) rfl rfl (F.bindsN fun _ _ _ _ _ _ us hl => match us, hl with | [_, _], _ => rfl) ck__law_draw (n__law_draw X G c ce)
theorem n__law_nested : knSs (KnAt P w mg base (SX K nm) 1) ir__law_nested :=
  (And.intro True.intro (And.intro (And.intro True.intro (And.intro (Exists.intro 1 (And.intro (by decide : 1 ≤ 1) (k__law_draw X G c ce))) (And.intro True.intro (And.intro True.intro True.intro)))) (And.intro (And.intro True.intro (And.intro (And.intro (Exists.intro 1 (And.intro (by decide : 1 ≤ 1) (k__law_draw X G c ce))) (And.intro True.intro (And.intro (And.intro (And.intro True.intro True.intro) True.intro) True.intro))) (And.intro (And.intro (And.intro True.intro True.intro) (And.intro (And.intro True.intro (And.intro True.intro (And.intro True.intro (And.intro True.intro (And.intro True.intro True.intro))))) (And.intro (Exists.intro 1 (And.intro (by decide : 1 ≤ 1) (k__law_draw X G c ce))) (And.intro True.intro (And.intro True.intro True.intro))))) (And.intro (And.intro True.intro (And.intro True.intro True.intro)) True.intro)))) (And.intro (And.intro True.intro True.intro) True.intro))))
theorem k__law_nested : Known P w (SX K nm) mg base 2 "_law_nested" 3 s__law_nested := by
  obtain ⟨fd, F⟩ := c.def_ 2 (d := d__law_nested) rfl
  have F : FunD (SX K nm).K "_law_nested" "_law_nested" (defArgs t__law_nested) (defBody t__law_nested) (defScope t__law_nested) [] [] (He.fAd K ("_law_nested", none)) fd := F
  exact known_of (lev := 1) (N := ["_law_pool_here", "_law_many", "_law_top", "_law_found", "_law_middle_here", "_law_k", "_law_one", "_law_other"]) (ps := ["_law_pool_here", "_law_many", "_law_top"]) (TX X G c) F sc__law_nested (byGlo c X G (by decide +kernel)) rfl rfl (F.bindsN fun _ _ _ _ _ _ us hl => match us, hl with | [_, _, _], _ => rfl) ck__law_nested (n__law_nested X G c ce)
theorem n__law_windows : knSs (KnAt P w mg base (SX K nm) 1) Pg.ir__law_windows :=
  (And.intro (And.intro (Exists.intro 1 (And.intro (by decide : 1 ≤ 1) (k__law_draw X G c ce))) (And.intro True.intro (And.intro True.intro True.intro))) (And.intro True.intro (And.intro (And.intro True.intro (And.intro (Exists.intro 1 (And.intro (by decide : 1 ≤ 1) (k__law_draw X G c ce))) (And.intro True.intro (And.intro (And.intro True.intro True.intro) True.intro)))) (And.intro (And.intro True.intro (And.intro (And.intro (Exists.intro 1 (And.intro (by decide : 1 ≤ 1) (k__law_draw X G c ce))) (And.intro True.intro (And.intro (And.intro True.intro True.intro) True.intro))) (And.intro (And.intro (Exists.intro 1 (And.intro (by decide : 1 ≤ 1) (k__law_draw X G c ce))) (And.intro True.intro (And.intro (And.intro True.intro True.intro) True.intro))) (And.intro (And.intro (And.intro (And.intro True.intro True.intro) (And.intro (And.intro (Exists.intro 1 (And.intro (by decide : 1 ≤ 1) (k__law_draw X G c ce))) (And.intro True.intro (And.intro True.intro True.intro))) True.intro)) (And.intro (And.intro (And.intro (Exists.intro 1 (And.intro (by decide : 1 ≤ 1) (k__law_draw X G c ce))) (And.intro True.intro (And.intro (And.intro (And.intro True.intro True.intro) True.intro) True.intro))) (And.intro (And.intro True.intro True.intro) True.intro)) True.intro)) (And.intro (And.intro (And.intro True.intro True.intro) (And.intro (And.intro (And.intro True.intro (And.intro (Exists.intro 1 (And.intro (by decide : 1 ≤ 1) (k__law_draw X G c ce))) (And.intro True.intro (And.intro True.intro True.intro)))) (And.intro (And.intro (And.intro True.intro True.intro) (And.intro (Exists.intro 1 (And.intro (by decide : 1 ≤ 1) (k__law_draw X G c ce))) (And.intro True.intro (And.intro True.intro True.intro)))) True.intro)) True.intro)) (And.intro (And.intro (And.intro True.intro (And.intro True.intro True.intro)) (And.intro (And.intro True.intro (And.intro True.intro True.intro)) True.intro)) True.intro)))))) (And.intro (And.intro True.intro True.intro) True.intro)))))
theorem k__law_windows : Known P w (SX K nm) mg base 2 "_law_windows" 3 Pg.s__law_windows := by
  obtain ⟨fd, F⟩ := c.def_ 3 (d := d__law_windows) rfl
  have F : FunD (SX K nm).K "_law_windows" "_law_windows" (defArgs t__law_windows) (defBody t__law_windows) (defScope t__law_windows) [] [] (He.fAd K ("_law_windows", none)) fd := F
  exact known_of (lev := 1) (N := ["_law_pool_here", "_law_many", "_law_top", "_law_kind", "_law_found", "_law_middle_here", "_law_k", "_law_one", "_law_other"]) (ps := ["_law_pool_here", "_law_many", "_law_top"]) (TX X G c) F sc__law_windows (byGlo c X G (by decide +kernel)) rfl rfl (F.bindsN fun _ _ _ _ _ _ us hl => match us, hl with | [_, _, _], _ => rfl) ck__law_windows (n__law_windows X G c ce)
theorem n__law_book_windows : knSs (KnAt P w mg base (SX K nm) 2) ir__law_book_windows :=
  (And.intro (And.intro (And.intro True.intro (And.intro True.intro (And.intro True.intro (And.intro (And.intro True.intro True.intro) True.intro)))) (And.intro (Exists.intro 1 (And.intro (by decide : 1 ≤ 2) (k__law_draw X G c ce))) (And.intro True.intro (And.intro True.intro True.intro)))) (And.intro (And.intro (And.intro (And.intro (Exists.intro 1 (And.intro (by decide : 1 ≤ 2) (k__law_draw X G c ce))) (And.intro True.intro (And.intro True.intro True.intro))) True.intro) (And.intro (And.intro (And.intro (Exists.intro 2 (And.intro (by decide : 2 ≤ 2) (k__law_nested X G c ce))) (And.intro True.intro (And.intro True.intro (And.intro (And.intro True.intro (And.intro True.intro True.intro)) True.intro)))) True.intro) True.intro)) (And.intro (And.intro (Exists.intro 2 (And.intro (by decide : 2 ≤ 2) (k__law_windows X G c ce))) (And.intro True.intro (And.intro True.intro (And.intro True.intro True.intro)))) True.intro)))
theorem k__law_book_windows : Known P w (SX K nm) mg base 3 "_law_book_windows" 2 s__law_book_windows := by
  obtain ⟨fd, F⟩ := c.def_ 4 (d := d__law_book_windows) rfl
  have F : FunD (SX K nm).K "_law_book_windows" "_law_book_windows" (defArgs t__law_book_windows) (defBody t__law_book_windows) (defScope t__law_book_windows) [] [] (He.fAd K ("_law_book_windows", none)) fd := F
  exact known_of (lev := 2) (N := ["_law_pool_here", "_law_many", "_law_top"]) (ps := ["_law_pool_here", "_law_many"]) (TX X G c) F sc__law_book_windows (byGlo c X G (by decide +kernel)) rfl rfl (F.bindsN fun _ _ _ _ _ _ us hl => match us, hl with | [_, _], _ => rfl) ck__law_book_windows (n__law_book_windows X G c ce)
theorem n_is_pair : knSs (KnAt P w mg base (SX K nm) 0) Pg.ir_is_pair :=
  (And.intro (And.intro (And.intro True.intro (And.intro True.intro True.intro)) (And.intro (And.intro True.intro True.intro) True.intro)) True.intro)
theorem k_is_pair : Known P w (SX K nm) mg base 1 "is_pair" 1 Pg.s_is_pair := by
  obtain ⟨fd, F⟩ := c.def_ 5 (d := d_is_pair) rfl
  have F : FunD (SX K nm).K "is_pair" "is_pair" (defArgs t_is_pair) (defBody t_is_pair) (defScope t_is_pair) [] [] (He.fAd K ("is_pair", none)) fd := F
  exact known_of (lev := 0) (N := ["thing"]) (ps := ["thing"]) (TX X G c) F sc_is_pair (byGlo c X G (by decide +kernel)) rfl rfl (F.bindsN fun _ _ _ _ _ _ us hl => match us, hl with | [_], _ => rfl) ck_is_pair (n_is_pair X G c ce)
theorem n_is_integer : knSs (KnAt P w mg base (SX K nm) 0) Pg.ir_is_integer :=
  (And.intro (And.intro (And.intro True.intro (And.intro True.intro True.intro)) (And.intro True.intro (And.intro True.intro True.intro))) True.intro)
theorem k_is_integer : Known P w (SX K nm) mg base 1 "is_integer" 1 Pg.s_is_integer := by
  obtain ⟨fd, F⟩ := c.def_ 6 (d := d_is_integer) rfl
  have F : FunD (SX K nm).K "is_integer" "is_integer" (defArgs t_is_integer) (defBody t_is_integer) (defScope t_is_integer) [] [] (He.fAd K ("is_integer", none)) fd := F
  exact known_of (lev := 0) (N := ["thing"]) (ps := ["thing"]) (TX X G c) F sc_is_integer (byGlo c X G (by decide +kernel)) rfl rfl (F.bindsN fun _ _ _ _ _ _ us hl => match us, hl with | [_], _ => rfl) ck_is_integer (n_is_integer X G c ce)
theorem n_is_within : knSs (KnAt P w mg base (SX K nm) 1) Pg.ir_is_within :=
  (And.intro (And.intro (And.intro (Exists.intro 1 (And.intro (by decide : 1 ≤ 1) (k_is_integer X G c ce))) (And.intro True.intro True.intro)) (And.intro True.intro (And.intro True.intro True.intro))) True.intro)
theorem k_is_within : Known P w (SX K nm) mg base 2 "is_within" 3 Pg.s_is_within := by
  obtain ⟨fd, F⟩ := c.def_ 7 (d := d_is_within) rfl
  have F : FunD (SX K nm).K "is_within" "is_within" (defArgs t_is_within) (defBody t_is_within) (defScope t_is_within) [] [] (He.fAd K ("is_within", none)) fd := F
  exact known_of (lev := 1) (N := ["thing", "least", "most"]) (ps := ["thing", "least", "most"]) (TX X G c) F sc_is_within (byGlo c X G (by decide +kernel)) rfl rfl (F.bindsN fun _ _ _ _ _ _ us hl => match us, hl with | [_, _, _], _ => rfl) ck_is_within (n_is_within X G c ce)
theorem n_is_window : knSs (KnAt P w mg base (SX K nm) 2) Pg.ir_is_window :=
  (And.intro (And.intro (And.intro (Exists.intro 1 (And.intro (by decide : 1 ≤ 2) (k_is_pair X G c ce))) (And.intro True.intro True.intro)) (And.intro (And.intro (Exists.intro 2 (And.intro (by decide : 2 ≤ 2) (k_is_within X G c ce))) (And.intro (And.intro True.intro True.intro) (And.intro True.intro (And.intro True.intro True.intro)))) (And.intro (Exists.intro 2 (And.intro (by decide : 2 ≤ 2) (k_is_within X G c ce))) (And.intro (And.intro True.intro True.intro) (And.intro (And.intro True.intro True.intro) (And.intro True.intro True.intro)))))) True.intro)
theorem k_is_window : Known P w (SX K nm) mg base 3 "is_window" 1 Pg.s_is_window := by
  obtain ⟨fd, F⟩ := c.def_ 8 (d := d_is_window) rfl
  have F : FunD (SX K nm).K "is_window" "is_window" (defArgs t_is_window) (defBody t_is_window) (defScope t_is_window) [] [] (He.fAd K ("is_window", none)) fd := F
  exact known_of (lev := 2) (N := ["thing"]) (ps := ["thing"]) (TX X G c) F sc_is_window (byGlo c X G (by decide +kernel)) rfl rfl (F.bindsN fun _ _ _ _ _ _ us hl => match us, hl with | [_], _ => rfl) ck_is_window (n_is_window X G c ce)
theorem n_Book_init : knSs (KnAt P w mg base (SX K nm) 3) Pg.ir_Book_init :=
  (And.intro (And.intro (And.intro (And.intro True.intro (And.intro True.intro True.intro)) (And.intro True.intro (And.intro (And.intro True.intro True.intro) True.intro))) (And.intro (And.intro True.intro True.intro) True.intro)) (And.intro (And.intro (And.intro (And.intro True.intro (And.intro True.intro (And.intro (Exists.intro 3 (And.intro (by decide : 3 ≤ 3) (k_is_window X G c ce))) (And.intro True.intro True.intro)))) True.intro) (And.intro (And.intro True.intro True.intro) True.intro)) (And.intro True.intro (And.intro True.intro True.intro))))
theorem k_Book_init : KnownC P w (SX K nm) mg base 4 "Book" 0 1 Pg.s_Book_init := by
  obtain ⟨fd, F⟩ := c.def_ 9 (d := d_Book_init) rfl
  have F : FunD (SX K nm).K "__init__" "Book.__init__" (defArgs t_Book_init) (defBody t_Book_init) (defScope t_Book_init) [] [] (He.fAd K ("Book", some "__init__")) fd := F
  exact knownC_of (lev := 3) (N := ["self", "windows", "window"]) (ps := ["windows"]) (TX X G c) F sc_Book_init (byGlo c X G (by decide +kernel)) (byMkr c (by decide +kernel)) rfl rfl (F.bindsN fun _ _ _ _ _ _ us hl => match us, hl with | [_, _], _ => rfl) ck_Book_init (n_Book_init X G c ce)
theorem n__law_row : knSs (KnAt P w mg base (SX K nm) 1) Pg.ir__law_row :=
  (And.intro (And.intro True.intro True.intro) (And.intro (And.intro (Exists.intro 1 (And.intro (by decide : 1 ≤ 1) (k__law_draw X G c ce))) (And.intro True.intro True.intro)) True.intro))
theorem k__law_row : Known P w (SX K nm) mg base 2 "_law_row" 2 Pg.s__law_row := by
  obtain ⟨fd, F⟩ := c.def_ 10 (d := d__law_row) rfl
  have F : FunD (SX K nm).K "_law_row" "_law_row" (defArgs t__law_row) (defBody t__law_row) (defScope t__law_row) [] [] (He.fAd K ("_law_row", none)) fd := F
  exact known_of (lev := 1) (N := ["_law_pool_here", "_law_works", "_law_left", "_law_k"]) (ps := ["_law_pool_here", "_law_works"]) (TX X G c) F sc__law_row (byGlo c X G (by decide +kernel)) rfl rfl (F.bindsN fun _ _ _ _ _ _ us hl => match us, hl with | [_, _], _ => rfl) ck__law_row (n__law_row X G c ce)
theorem n__law_middle : knSs (KnAt P w mg base (SX K nm) 0) ir__law_middle :=
  (And.intro (And.intro (And.intro (And.intro True.intro True.intro) True.intro) (And.intro (And.intro True.intro True.intro) True.intro)) True.intro)
theorem k__law_middle : Known P w (SX K nm) mg base 1 "_law_middle" 2 s__law_middle := by
  obtain ⟨fd, F⟩ := c.def_ 11 (d := d__law_middle) rfl
  have F : FunD (SX K nm).K "_law_middle" "_law_middle" (defArgs t__law_middle) (defBody t__law_middle) (defScope t__law_middle) [] [] (He.fAd K ("_law_middle", none)) fd := F
  exact known_of (lev := 0) (N := ["_law_windows_here", "_law_work"]) (ps := ["_law_windows_here", "_law_work"]) (TX X G c) F sc__law_middle (byGlo c X G (by decide +kernel)) rfl rfl (F.bindsN fun _ _ _ _ _ _ us hl => match us, hl with | [_, _], _ => rfl) ck__law_middle (n__law_middle X G c ce)
theorem n__law_by_middles : knSs (KnAt P w mg base (SX K nm) 2) ir__law_by_middles :=
  (And.intro True.intro (And.intro (And.intro (And.intro True.intro (And.intro True.intro (And.intro (Exists.intro 1 (And.intro (by decide : 1 ≤ 2) (k__law_middle X G c ce))) (And.intro True.intro (And.intro True.intro True.intro))))) (And.intro (And.intro True.intro (And.intro (And.intro (And.intro (Exists.intro 1 (And.intro (by decide : 1 ≤ 2) (k__law_middle X G c ce))) (And.intro True.intro (And.intro True.intro True.intro))) True.intro) True.intro)) (And.intro (And.intro (Exists.intro 2 (And.intro (by decide : 2 ≤ 2) (k__law_row X G c ce))) (And.intro True.intro (And.intro True.intro True.intro))) True.intro))) (And.intro (And.intro True.intro True.intro) True.intro)))
theorem k__law_by_middles : Known P w (SX K nm) mg base 3 "_law_by_middles" 3 s__law_by_middles := by
  obtain ⟨fd, F⟩ := c.def_ 12 (d := d__law_by_middles) rfl
  have F : FunD (SX K nm).K "_law_by_middles" "_law_by_middles" (defArgs t__law_by_middles) (defBody t__law_by_middles) (defScope t__law_by_middles) [] [] (He.fAd K ("_law_by_middles", none)) fd := F
  exact known_of (lev := 2) (N := ["_law_pool_here", "_law_windows_here", "_law_works", "_law_found", "_law_middle_here", "_law_alike", "_law_work"]) (ps := ["_law_pool_here", "_law_windows_here", "_law_works"]) (TX X G c) F sc__law_by_middles (byGlo c X G (by decide +kernel)) rfl rfl (F.bindsN fun _ _ _ _ _ _ us hl => match us, hl with | [_, _, _], _ => rfl) ck__law_by_middles (n__law_by_middles X G c ce)
theorem n__law_near_order : knSs (KnAt P w mg base (SX K nm) 3) ir__law_near_order :=
  (And.intro (And.intro (And.intro True.intro True.intro) True.intro) (And.intro (And.intro (Exists.intro 1 (And.intro (by decide : 1 ≤ 3) (k__law_draw X G c ce))) (And.intro True.intro (And.intro True.intro True.intro))) (And.intro (And.intro (And.intro True.intro True.intro) (And.intro (And.intro (And.intro (Exists.intro 2 (And.intro (by decide : 2 ≤ 3) (k__law_row X G c ce))) (And.intro True.intro (And.intro True.intro True.intro))) True.intro) True.intro)) (And.intro (And.intro (And.intro (Exists.intro 3 (And.intro (by decide : 3 ≤ 3) (k__law_by_middles X G c ce))) (And.intro True.intro (And.intro True.intro (And.intro True.intro True.intro)))) True.intro) (And.intro (And.intro (And.intro True.intro True.intro) (And.intro (And.intro (And.intro (Exists.intro 1 (And.intro (by decide : 1 ≤ 3) (k__law_draw X G c ce))) (And.intro True.intro (And.intro (And.intro True.intro True.intro) True.intro))) (And.intro (And.intro (Exists.intro 1 (And.intro (by decide : 1 ≤ 3) (k__law_draw X G c ce))) (And.intro True.intro (And.intro (And.intro True.intro True.intro) True.intro))) (And.intro (And.intro (And.intro True.intro True.intro) (And.intro (And.intro True.intro True.intro) True.intro)) True.intro))) True.intro)) (And.intro (And.intro True.intro True.intro) True.intro))))))
theorem k__law_near_order : Known P w (SX K nm) mg base 4 "_law_near_order" 2 s__law_near_order := by
  obtain ⟨fd, F⟩ := c.def_ 13 (d := d__law_near_order) rfl
  have F : FunD (SX K nm).K "_law_near_order" "_law_near_order" (defArgs t__law_near_order) (defBody t__law_near_order) (defScope t__law_near_order) [] [] (He.fAd K ("_law_near_order", none)) fd := F
  exact known_of (lev := 3) (N := ["_law_pool_here", "_law_windows_here", "_law_works", "_law_way", "_law_found", "_law_one", "_law_two"]) (ps := ["_law_pool_here", "_law_windows_here"]) (TX X G c) F sc__law_near_order (byGlo c X G (by decide +kernel)) rfl rfl (F.bindsN fun _ _ _ _ _ _ us hl => match us, hl with | [_, _], _ => rfl) ck__law_near_order (n__law_near_order X G c ce)
theorem n__law_within : knSs (KnAt P w mg base (SX K nm) 0) ir__law_within :=
  (And.intro (And.intro (And.intro (And.intro (And.intro True.intro True.intro) True.intro) (And.intro (And.intro True.intro True.intro) True.intro)) (And.intro (And.intro (And.intro True.intro True.intro) True.intro) (And.intro (And.intro True.intro True.intro) True.intro))) True.intro)
theorem k__law_within : Known P w (SX K nm) mg base 1 "_law_within" 3 s__law_within := by
  obtain ⟨fd, F⟩ := c.def_ 14 (d := d__law_within) rfl
  have F : FunD (SX K nm).K "_law_within" "_law_within" (defArgs t__law_within) (defBody t__law_within) (defScope t__law_within) [] [] (He.fAd K ("_law_within", none)) fd := F
  exact known_of (lev := 0) (N := ["_law_windows_here", "_law_one", "_law_other"]) (ps := ["_law_windows_here", "_law_one", "_law_other"]) (TX X G c) F sc__law_within (byGlo c X G (by decide +kernel)) rfl rfl (F.bindsN fun _ _ _ _ _ _ us hl => match us, hl with | [_, _, _], _ => rfl) ck__law_within (n__law_within X G c ce)
theorem n__law_throws : knSs (KnAt P w mg base (SX K nm) 1) ir__law_throws :=
  (And.intro True.intro (And.intro (And.intro (And.intro True.intro True.intro) (And.intro (And.intro True.intro True.intro) (And.intro (And.intro (And.intro True.intro True.intro) (And.intro (And.intro True.intro True.intro) (And.intro (And.intro (And.intro (And.intro True.intro True.intro) (And.intro (And.intro (Exists.intro 1 (And.intro (by decide : 1 ≤ 1) (k__law_middle X G c ce))) (And.intro True.intro (And.intro True.intro True.intro))) (And.intro (Exists.intro 1 (And.intro (by decide : 1 ≤ 1) (k__law_middle X G c ce))) (And.intro True.intro (And.intro True.intro True.intro))))) (And.intro (And.intro (And.intro True.intro (And.intro True.intro (And.intro True.intro True.intro))) True.intro) True.intro)) (And.intro (And.intro (And.intro (And.intro True.intro True.intro) (And.intro (Exists.intro 1 (And.intro (by decide : 1 ≤ 1) (k__law_within X G c ce))) (And.intro True.intro (And.intro True.intro (And.intro True.intro True.intro))))) (And.intro (And.intro (And.intro (And.intro (Exists.intro 1 (And.intro (by decide : 1 ≤ 1) (k__law_middle X G c ce))) (And.intro True.intro (And.intro True.intro True.intro))) (And.intro (And.intro True.intro True.intro) True.intro)) (And.intro (And.intro (And.intro (Exists.intro 1 (And.intro (by decide : 1 ≤ 1) (k__law_middle X G c ce))) (And.intro True.intro (And.intro True.intro True.intro))) (And.intro (And.intro True.intro True.intro) True.intro)) (And.intro (And.intro (And.intro True.intro (And.intro (And.intro True.intro True.intro) True.intro)) (And.intro (And.intro (And.intro True.intro True.intro) (And.intro (And.intro (And.intro True.intro True.intro) True.intro) True.intro)) (And.intro True.intro (And.intro True.intro (And.intro True.intro (And.intro True.intro True.intro)))))) (And.intro (And.intro (And.intro True.intro (And.intro True.intro True.intro)) (And.intro (And.intro (And.intro True.intro True.intro) (And.intro (And.intro (And.intro True.intro True.intro) True.intro) True.intro)) (And.intro True.intro (And.intro True.intro (And.intro True.intro (And.intro True.intro True.intro)))))) True.intro)))) True.intro)) True.intro)))) True.intro))) (And.intro (And.intro True.intro True.intro) True.intro)))
theorem k__law_throws : Known P w (SX K nm) mg base 2 "_law_throws" 2 s__law_throws := by
  obtain ⟨fd, F⟩ := c.def_ 15 (d := d__law_throws) rfl
  have F : FunD (SX K nm).K "_law_throws" "_law_throws" (defArgs t__law_throws) (defBody t__law_throws) (defScope t__law_throws) [] [] (He.fAd K ("_law_throws", none)) fd := F
  exact known_of (lev := 1) (N := ["_law_windows_here", "_law_order", "_law_found", "_law_i", "_law_a", "_law_j", "_law_b", "_law_front", "_law_back", "_law_c"]) (ps := ["_law_windows_here", "_law_order"]) (TX X G c) F sc__law_throws (byGlo c X G (by decide +kernel)) rfl rfl (F.bindsN fun _ _ _ _ _ _ us hl => match us, hl with | [_, _], _ => rfl) ck__law_throws (n__law_throws X G c ce)
theorem n__law_flag : knSs (KnAt P w mg base (SX K nm) 0) Pg.ir__law_flag :=
  (And.intro (And.intro (And.intro True.intro (And.intro True.intro True.intro)) (And.intro True.intro True.intro)) True.intro)
theorem k__law_flag : Known P w (SX K nm) mg base 1 "_law_flag" 2 Pg.s__law_flag := by
  obtain ⟨fd, F⟩ := c.def_ 16 (d := d__law_flag) rfl
  have F : FunD (SX K nm).K "_law_flag" "_law_flag" (defArgs t__law_flag) (defBody t__law_flag) (defScope t__law_flag) [] [] (He.fAd K ("_law_flag", none)) fd := F
  exact known_of (lev := 0) (N := ["_law_told", "_law_due"]) (ps := ["_law_told", "_law_due"]) (TX X G c) F sc__law_flag (byGlo c X G (by decide +kernel)) rfl rfl (F.bindsN fun _ _ _ _ _ _ us hl => match us, hl with | [_, _], _ => rfl) ck__law_flag (n__law_flag X G c ce)
theorem n_many_of : knSs (KnAt P w mg base (SX K nm) 0) Pg.ir_many_of :=
  (And.intro (And.intro True.intro True.intro) True.intro)
theorem k_many_of : Known P w (SX K nm) mg base 1 "many_of" 1 Pg.s_many_of := by
  obtain ⟨fd, F⟩ := c.def_ 17 (d := d_many_of) rfl
  have F : FunD (SX K nm).K "many_of" "many_of" (defArgs t_many_of) (defBody t_many_of) (defScope t_many_of) [] [] (He.fAd K ("many_of", none)) fd := F
  exact known_of (lev := 0) (N := ["book"]) (ps := ["book"]) (TX X G c) F sc_many_of (byGlo c X G (by decide +kernel)) rfl rfl (F.bindsN fun _ _ _ _ _ _ us hl => match us, hl with | [_], _ => rfl) ck_many_of (n_many_of X G c ce)
theorem n_is_work : knSs (KnAt P w mg base (SX K nm) 2) Pg.ir_is_work :=
  (And.intro (And.intro (Exists.intro 2 (And.intro (by decide : 2 ≤ 2) (k_is_within X G c ce))) (And.intro True.intro (And.intro True.intro (And.intro (And.intro (And.intro (Exists.intro 1 (And.intro (by decide : 1 ≤ 2) (k_many_of X G c ce))) (And.intro True.intro True.intro)) True.intro) True.intro)))) True.intro)
theorem k_is_work : Known P w (SX K nm) mg base 3 "is_work" 2 Pg.s_is_work := by
  obtain ⟨fd, F⟩ := c.def_ 18 (d := d_is_work) rfl
  have F : FunD (SX K nm).K "is_work" "is_work" (defArgs t_is_work) (defBody t_is_work) (defScope t_is_work) [] [] (He.fAd K ("is_work", none)) fd := F
  exact known_of (lev := 2) (N := ["book", "thing"]) (ps := ["book", "thing"]) (TX X G c) F sc_is_work (byGlo c X G (by decide +kernel)) rfl rfl (F.bindsN fun _ _ _ _ _ _ us hl => match us, hl with | [_, _], _ => rfl) ck_is_work (n_is_work X G c ce)
theorem n_is_row : knSs (KnAt P w mg base (SX K nm) 3) Pg.ir_is_row :=
  (And.intro (And.intro (And.intro (And.intro True.intro (And.intro True.intro True.intro)) (And.intro (And.intro True.intro (And.intro True.intro (And.intro (Exists.intro 3 (And.intro (by decide : 3 ≤ 3) (k_is_work X G c ce))) (And.intro True.intro (And.intro True.intro True.intro))))) True.intro)) (And.intro (And.intro True.intro True.intro) True.intro)) (And.intro (And.intro (And.intro True.intro True.intro) (And.intro True.intro True.intro)) True.intro))
theorem k_is_row : Known P w (SX K nm) mg base 4 "is_row" 2 Pg.s_is_row := by
  obtain ⟨fd, F⟩ := c.def_ 19 (d := d_is_row) rfl
  have F : FunD (SX K nm).K "is_row" "is_row" (defArgs t_is_row) (defBody t_is_row) (defScope t_is_row) [] [] (He.fAd K ("is_row", none)) fd := F
  exact known_of (lev := 3) (N := ["book", "thing", "work"]) (ps := ["book", "thing"]) (TX X G c) F sc_is_row (byGlo c X G (by decide +kernel)) rfl rfl (F.bindsN fun _ _ _ _ _ _ us hl => match us, hl with | [_, _], _ => rfl) ck_is_row (n_is_row X G c ce)
theorem n_is_order : knSs (KnAt P w mg base (SX K nm) 4) ir_is_order :=
  (And.intro (And.intro (And.intro (Exists.intro 4 (And.intro (by decide : 4 ≤ 4) (k_is_row X G c ce))) (And.intro True.intro (And.intro True.intro True.intro))) (And.intro (And.intro True.intro True.intro) (And.intro (Exists.intro 1 (And.intro (by decide : 1 ≤ 4) (k_many_of X G c ce))) (And.intro True.intro True.intro)))) True.intro)
theorem k_is_order : Known P w (SX K nm) mg base 5 "is_order" 2 s_is_order := by
  obtain ⟨fd, F⟩ := c.def_ 20 (d := d_is_order) rfl
  have F : FunD (SX K nm).K "is_order" "is_order" (defArgs t_is_order) (defBody t_is_order) (defScope t_is_order) [] [] (He.fAd K ("is_order", none)) fd := F
  exact known_of (lev := 4) (N := ["book", "thing"]) (ps := ["book", "thing"]) (TX X G c) F sc_is_order (byGlo c X G (by decide +kernel)) rfl rfl (F.bindsN fun _ _ _ _ _ _ us hl => match us, hl with | [_, _], _ => rfl) ck_is_order (n_is_order X G c ce)
theorem n_first_of : knSs (KnAt P w mg base (SX K nm) 0) Pg.ir_first_of :=
  (And.intro (And.intro (And.intro True.intro True.intro) True.intro) True.intro)
theorem k_first_of : Known P w (SX K nm) mg base 1 "first_of" 2 Pg.s_first_of := by
  obtain ⟨fd, F⟩ := c.def_ 21 (d := d_first_of) rfl
  have F : FunD (SX K nm).K "first_of" "first_of" (defArgs t_first_of) (defBody t_first_of) (defScope t_first_of) [] [] (He.fAd K ("first_of", none)) fd := F
  exact known_of (lev := 0) (N := ["book", "work"]) (ps := ["book", "work"]) (TX X G c) F sc_first_of (byGlo c X G (by decide +kernel)) rfl rfl (F.bindsN fun _ _ _ _ _ _ us hl => match us, hl with | [_, _], _ => rfl) ck_first_of (n_first_of X G c ce)
theorem n_last_of : knSs (KnAt P w mg base (SX K nm) 0) Pg.ir_last_of :=
  (And.intro (And.intro (And.intro True.intro True.intro) True.intro) True.intro)
theorem k_last_of : Known P w (SX K nm) mg base 1 "last_of" 2 Pg.s_last_of := by
  obtain ⟨fd, F⟩ := c.def_ 22 (d := d_last_of) rfl
  have F : FunD (SX K nm).K "last_of" "last_of" (defArgs t_last_of) (defBody t_last_of) (defScope t_last_of) [] [] (He.fAd K ("last_of", none)) fd := F
  exact known_of (lev := 0) (N := ["book", "work"]) (ps := ["book", "work"]) (TX X G c) F sc_last_of (byGlo c X G (by decide +kernel)) rfl rfl (F.bindsN fun _ _ _ _ _ _ us hl => match us, hl with | [_, _], _ => rfl) ck_last_of (n_last_of X G c ce)
theorem n_lies_within : knSs (KnAt P w mg base (SX K nm) 1) ir_lies_within :=
  (And.intro (And.intro (And.intro (And.intro (Exists.intro 1 (And.intro (by decide : 1 ≤ 1) (k_first_of X G c ce))) (And.intro True.intro (And.intro True.intro True.intro))) (And.intro (Exists.intro 1 (And.intro (by decide : 1 ≤ 1) (k_first_of X G c ce))) (And.intro True.intro (And.intro True.intro True.intro)))) (And.intro (And.intro (Exists.intro 1 (And.intro (by decide : 1 ≤ 1) (k_last_of X G c ce))) (And.intro True.intro (And.intro True.intro True.intro))) (And.intro (Exists.intro 1 (And.intro (by decide : 1 ≤ 1) (k_last_of X G c ce))) (And.intro True.intro (And.intro True.intro True.intro))))) True.intro)
theorem k_lies_within : Known P w (SX K nm) mg base 2 "lies_within" 3 s_lies_within := by
  obtain ⟨fd, F⟩ := c.def_ 23 (d := d_lies_within) rfl
  have F : FunD (SX K nm).K "lies_within" "lies_within" (defArgs t_lies_within) (defBody t_lies_within) (defScope t_lies_within) [] [] (He.fAd K ("lies_within", none)) fd := F
  exact known_of (lev := 1) (N := ["book", "one", "other"]) (ps := ["book", "one", "other"]) (TX X G c) F sc_lies_within (byGlo c X G (by decide +kernel)) rfl rfl (F.bindsN fun _ _ _ _ _ _ us hl => match us, hl with | [_, _, _], _ => rfl) ck_lies_within (n_lies_within X G c ce)
theorem n_middle_of : knSs (KnAt P w mg base (SX K nm) 1) ir_middle_of :=
  (And.intro (And.intro (And.intro (Exists.intro 1 (And.intro (by decide : 1 ≤ 1) (k_first_of X G c ce))) (And.intro True.intro (And.intro True.intro True.intro))) (And.intro (Exists.intro 1 (And.intro (by decide : 1 ≤ 1) (k_last_of X G c ce))) (And.intro True.intro (And.intro True.intro True.intro)))) True.intro)
theorem k_middle_of : Known P w (SX K nm) mg base 2 "middle_of" 2 s_middle_of := by
  obtain ⟨fd, F⟩ := c.def_ 24 (d := d_middle_of) rfl
  have F : FunD (SX K nm).K "middle_of" "middle_of" (defArgs t_middle_of) (defBody t_middle_of) (defScope t_middle_of) [] [] (He.fAd K ("middle_of", none)) fd := F
  exact known_of (lev := 1) (N := ["book", "work"]) (ps := ["book", "work"]) (TX X G c) F sc_middle_of (byGlo c X G (by decide +kernel)) rfl rfl (F.bindsN fun _ _ _ _ _ _ us hl => match us, hl with | [_, _], _ => rfl) ck_middle_of (n_middle_of X G c ce)
theorem n_front_throws : knSs (KnAt P w mg base (SX K nm) 2) ir_front_throws :=
  (And.intro (And.intro True.intro True.intro) (And.intro True.intro (And.intro (And.intro (And.intro True.intro (And.intro True.intro True.intro)) (And.intro (And.intro (And.intro (Exists.intro 2 (And.intro (by decide : 2 ≤ 2) (k_lies_within X G c ce))) (And.intro True.intro (And.intro True.intro (And.intro True.intro True.intro)))) (And.intro (And.intro (And.intro (And.intro (Exists.intro 2 (And.intro (by decide : 2 ≤ 2) (k_middle_of X G c ce))) (And.intro True.intro (And.intro True.intro True.intro))) (And.intro (Exists.intro 1 (And.intro (by decide : 1 ≤ 2) (k_first_of X G c ce))) (And.intro True.intro (And.intro True.intro True.intro)))) (And.intro (And.intro (And.intro True.intro (And.intro (And.intro True.intro True.intro) True.intro)) (And.intro (And.intro (And.intro (Exists.intro 1 (And.intro (by decide : 1 ≤ 2) (k_first_of X G c ce))) (And.intro True.intro (And.intro True.intro True.intro))) True.intro) True.intro)) (And.intro (And.intro True.intro (And.intro True.intro (And.intro True.intro (And.intro True.intro (And.intro True.intro (And.intro True.intro True.intro)))))) True.intro))) True.intro)) True.intro)) (And.intro True.intro True.intro))))
theorem k_front_throws : Known P w (SX K nm) mg base 3 "front_throws" 3 s_front_throws := by
  obtain ⟨fd, F⟩ := c.def_ 25 (d := d_front_throws) rfl
  have F : FunD (SX K nm).K "front_throws" "front_throws" (defArgs t_front_throws) (defBody t_front_throws) (defScope t_front_throws) [] [] (He.fAd K ("front_throws", none)) fd := F
  exact known_of (lev := 2) (N := ["book", "order", "place", "work", "found", "other", "bound", "behind", "third"]) (ps := ["book", "order", "place"]) (TX X G c) F sc_front_throws (byGlo c X G (by decide +kernel)) rfl rfl (F.bindsN fun _ _ _ _ _ _ us hl => match us, hl with | [_, _, _], _ => rfl) ck_front_throws (n_front_throws X G c ce)
theorem n_back_throws : knSs (KnAt P w mg base (SX K nm) 2) ir_back_throws :=
  (And.intro (And.intro True.intro True.intro) (And.intro True.intro (And.intro (And.intro (And.intro True.intro (And.intro (And.intro True.intro True.intro) True.intro)) (And.intro (And.intro (And.intro (Exists.intro 2 (And.intro (by decide : 2 ≤ 2) (k_lies_within X G c ce))) (And.intro True.intro (And.intro True.intro (And.intro True.intro True.intro)))) (And.intro (And.intro (And.intro (And.intro (Exists.intro 2 (And.intro (by decide : 2 ≤ 2) (k_middle_of X G c ce))) (And.intro True.intro (And.intro True.intro True.intro))) (And.intro (Exists.intro 1 (And.intro (by decide : 1 ≤ 2) (k_last_of X G c ce))) (And.intro True.intro (And.intro True.intro True.intro)))) (And.intro (And.intro (And.intro True.intro (And.intro True.intro True.intro)) (And.intro (And.intro (And.intro (Exists.intro 1 (And.intro (by decide : 1 ≤ 2) (k_last_of X G c ce))) (And.intro True.intro (And.intro True.intro True.intro))) True.intro) True.intro)) (And.intro (And.intro True.intro (And.intro True.intro (And.intro True.intro (And.intro True.intro (And.intro True.intro (And.intro True.intro True.intro)))))) True.intro))) True.intro)) True.intro)) (And.intro True.intro True.intro))))
theorem k_back_throws : Known P w (SX K nm) mg base 3 "back_throws" 3 s_back_throws := by
  obtain ⟨fd, F⟩ := c.def_ 26 (d := d_back_throws) rfl
  have F : FunD (SX K nm).K "back_throws" "back_throws" (defArgs t_back_throws) (defBody t_back_throws) (defScope t_back_throws) [] [] (He.fAd K ("back_throws", none)) fd := F
  exact known_of (lev := 2) (N := ["book", "order", "place", "work", "found", "other", "bound", "ahead", "third"]) (ps := ["book", "order", "place"]) (TX X G c) F sc_back_throws (byGlo c X G (by decide +kernel)) rfl rfl (F.bindsN fun _ _ _ _ _ _ us hl => match us, hl with | [_, _, _], _ => rfl) ck_back_throws (n_back_throws X G c ce)
theorem nN_middle_throws : knSs (KnAt P w mg base (SX K nm) 2) irN_middle_throws :=
  (And.intro True.intro (And.intro (And.intro True.intro (And.intro (And.intro (And.intro True.intro (And.intro (And.intro True.intro True.intro) True.intro)) (And.intro (And.intro (And.intro (And.intro (Exists.intro 2 (And.intro (by decide : 2 ≤ 2) (k_middle_of X G c ce))) (And.intro True.intro (And.intro True.intro True.intro))) (And.intro (Exists.intro 2 (And.intro (by decide : 2 ≤ 2) (k_middle_of X G c ce))) (And.intro True.intro (And.intro True.intro True.intro)))) (And.intro (And.intro (And.intro True.intro (And.intro True.intro (And.intro True.intro True.intro))) True.intro) True.intro)) True.intro)) True.intro)) (And.intro True.intro True.intro)))
theorem kN_middle_throws : KnownN P w (SX K nm) mg base 3 "middle_throws" 2 sN_middle_throws := by
  obtain ⟨fd, F⟩ := c.def_ 31 (d := d_middle_throws) rfl
  have F : FunD (SX K nm).K "middle_throws" "middle_throws" (defArgs t_middle_throws) (defBody t_middle_throws) (defScope t_middle_throws) [] [] (He.fAd K ("middle_throws", none)) fd := F
  exact knownN_of (lev := 2) (N := ["book", "order", "found", "place", "work", "other"]) (ps := ["book", "order"]) (TX X G c) F sc_middle_throws (byGlo c X G (by decide +kernel)) rfl rfl (F.bindsN fun _ _ _ _ _ _ us hl => match us, hl with | [_, _], _ => rfl) ckN_middle_throws (nN_middle_throws X G c ce) rfl
theorem n_all_throws : knSs (KnAt P w mg base (SX K nm) 3) ir_all_throws :=
  (And.intro (And.intro (Exists.intro 3 (And.intro (by decide : 3 ≤ 3) (kN_middle_throws X G c ce))) (And.intro True.intro (And.intro True.intro True.intro))) (And.intro (And.intro (And.intro True.intro True.intro) (And.intro (And.intro (Exists.intro 3 (And.intro (by decide : 3 ≤ 3) (k_front_throws X G c ce))) (And.intro True.intro (And.intro True.intro (And.intro True.intro True.intro)))) (And.intro (And.intro (Exists.intro 3 (And.intro (by decide : 3 ≤ 3) (k_back_throws X G c ce))) (And.intro True.intro (And.intro True.intro (And.intro True.intro True.intro)))) True.intro))) (And.intro (And.intro True.intro True.intro) True.intro)))
theorem k_all_throws : Known P w (SX K nm) mg base 4 "all_throws" 2 s_all_throws := by
  obtain ⟨fd, F⟩ := c.def_ 27 (d := d_all_throws) rfl
  have F : FunD (SX K nm).K "all_throws" "all_throws" (defArgs t_all_throws) (defBody t_all_throws) (defScope t_all_throws) [] [] (He.fAd K ("all_throws", none)) fd := F
  exact known_of (lev := 3) (N := ["book", "order", "found", "place"]) (ps := ["book", "order"]) (TX X G c) F sc_all_throws (byGlo c X G (by decide +kernel)) rfl rfl (F.bindsN fun _ _ _ _ _ _ us hl => match us, hl with | [_, _], _ => rfl) ck_all_throws (n_all_throws X G c ce)
theorem n_is_one_order : knSs (KnAt P w mg base (SX K nm) 5) ir_is_one_order :=
  (And.intro (And.intro (And.intro (Exists.intro 5 (And.intro (by decide : 5 ≤ 5) (k_is_order X G c ce))) (And.intro True.intro (And.intro True.intro True.intro))) (And.intro (And.intro (And.intro (Exists.intro 4 (And.intro (by decide : 4 ≤ 5) (k_all_throws X G c ce))) (And.intro True.intro (And.intro True.intro True.intro))) True.intro) True.intro)) True.intro)
theorem k_is_one_order : Known P w (SX K nm) mg base 6 "is_one_order" 2 s_is_one_order := by
  obtain ⟨fd, F⟩ := c.def_ 28 (d := d_is_one_order) rfl
  have F : FunD (SX K nm).K "is_one_order" "is_one_order" (defArgs t_is_one_order) (defBody t_is_one_order) (defScope t_is_one_order) [] [] (He.fAd K ("is_one_order", none)) fd := F
  exact known_of (lev := 5) (N := ["book", "thing"]) (ps := ["book", "thing"]) (TX X G c) F sc_is_one_order (byGlo c X G (by decide +kernel)) rfl rfl (F.bindsN fun _ _ _ _ _ _ us hl => match us, hl with | [_, _], _ => rfl) ck_is_one_order (n_is_one_order X G c ce)
theorem n_check_order : knSs (KnAt P w mg base (SX K nm) 5) ir_check_order :=
  (And.intro (And.intro (And.intro (Exists.intro 5 (And.intro (by decide : 5 ≤ 5) (k_is_order X G c ce))) (And.intro True.intro (And.intro True.intro True.intro))) (And.intro (And.intro True.intro True.intro) True.intro)) True.intro)
theorem k_check_order : Known P w (SX K nm) mg base 6 "check_order" 2 s_check_order := by
  obtain ⟨fd, F⟩ := c.def_ 29 (d := d_check_order) rfl
  have F : FunD (SX K nm).K "check_order" "check_order" (defArgs t_check_order) (defBody t_check_order) (defScope t_check_order) [] [] (He.fAd K ("check_order", none)) fd := F
  exact known_of (lev := 5) (N := ["book", "thing"]) (ps := ["book", "thing"]) (TX X G c) F sc_check_order (byGlo c X G (by decide +kernel)) rfl rfl (F.bindsN fun _ _ _ _ _ _ us hl => match us, hl with | [_, _], _ => rfl) ck_check_order (n_check_order X G c ce)
theorem n_throws : knSs (KnAt P w mg base (SX K nm) 6) ir_throws :=
  (And.intro (And.intro (Exists.intro 6 (And.intro (by decide : 6 ≤ 6) (k_check_order X G c ce))) (And.intro True.intro (And.intro True.intro True.intro))) (And.intro (And.intro (Exists.intro 4 (And.intro (by decide : 4 ≤ 6) (k_all_throws X G c ce))) (And.intro True.intro (And.intro True.intro True.intro))) True.intro))
theorem k_throws : Known P w (SX K nm) mg base 7 "throws" 2 s_throws := by
  obtain ⟨fd, F⟩ := c.def_ 30 (d := d_throws) rfl
  have F : FunD (SX K nm).K "throws" "throws" (defArgs t_throws) (defBody t_throws) (defScope t_throws) [] [] (He.fAd K ("throws", none)) fd := F
  exact known_of (lev := 6) (N := ["book", "order"]) (ps := ["book", "order"]) (TX X G c) F sc_throws (byGlo c X G (by decide +kernel)) rfl rfl (F.bindsN fun _ _ _ _ _ _ us hl => match us, hl with | [_, _], _ => rfl) ck_throws (n_throws X G c ce)
theorem nN_all_throws : knSs (KnAt P w mg base (SX K nm) 3) irN_all_throws :=
  (And.intro (And.intro (Exists.intro 3 (And.intro (by decide : 3 ≤ 3) (kN_middle_throws X G c ce))) (And.intro True.intro (And.intro True.intro True.intro))) (And.intro (And.intro (And.intro True.intro True.intro) (And.intro (And.intro (Exists.intro 3 (And.intro (by decide : 3 ≤ 3) (k_front_throws X G c ce))) (And.intro True.intro (And.intro True.intro (And.intro True.intro True.intro)))) (And.intro (And.intro (Exists.intro 3 (And.intro (by decide : 3 ≤ 3) (k_back_throws X G c ce))) (And.intro True.intro (And.intro True.intro (And.intro True.intro True.intro)))) True.intro))) (And.intro (And.intro True.intro True.intro) True.intro)))
theorem kN_all_throws : KnownN P w (SX K nm) mg base 4 "all_throws" 2 sN_all_throws := by
  obtain ⟨fd, F⟩ := c.def_ 27 (d := d_all_throws) rfl
  have F : FunD (SX K nm).K "all_throws" "all_throws" (defArgs t_all_throws) (defBody t_all_throws) (defScope t_all_throws) [] [] (He.fAd K ("all_throws", none)) fd := F
  exact knownN_of (lev := 3) (N := ["book", "order", "found", "place"]) (ps := ["book", "order"]) (TX X G c) F sc_all_throws (byGlo c X G (by decide +kernel)) rfl rfl (F.bindsN fun _ _ _ _ _ _ us hl => match us, hl with | [_, _], _ => rfl) ckN_all_throws (nN_all_throws X G c ce) rfl
theorem nN_throws : knSs (KnAt P w mg base (SX K nm) 6) irN_throws :=
  (And.intro (And.intro (Exists.intro 6 (And.intro (by decide : 6 ≤ 6) (k_check_order X G c ce))) (And.intro True.intro (And.intro True.intro True.intro))) (And.intro (And.intro (Exists.intro 4 (And.intro (by decide : 4 ≤ 6) (kN_all_throws X G c ce))) (And.intro True.intro (And.intro True.intro True.intro))) True.intro))
theorem kN_throws : KnownN P w (SX K nm) mg base 7 "throws" 2 sN_throws := by
  obtain ⟨fd, F⟩ := c.def_ 30 (d := d_throws) rfl
  have F : FunD (SX K nm).K "throws" "throws" (defArgs t_throws) (defBody t_throws) (defScope t_throws) [] [] (He.fAd K ("throws", none)) fd := F
  exact knownN_of (lev := 6) (N := ["book", "order"]) (ps := ["book", "order"]) (TX X G c) F sc_throws (byGlo c X G (by decide +kernel)) rfl rfl (F.bindsN fun _ _ _ _ _ _ us hl => match us, hl with | [_, _], _ => rfl) ckN_throws (nN_throws X G c ce) rfl
theorem n_middle_throws : knSs (KnAt P w mg base (SX K nm) 2) ir_middle_throws :=
  (And.intro True.intro (And.intro (And.intro True.intro (And.intro (And.intro (And.intro True.intro (And.intro (And.intro True.intro True.intro) True.intro)) (And.intro (And.intro (And.intro (And.intro (Exists.intro 2 (And.intro (by decide : 2 ≤ 2) (k_middle_of X G c ce))) (And.intro True.intro (And.intro True.intro True.intro))) (And.intro (Exists.intro 2 (And.intro (by decide : 2 ≤ 2) (k_middle_of X G c ce))) (And.intro True.intro (And.intro True.intro True.intro)))) (And.intro (And.intro (And.intro True.intro (And.intro True.intro (And.intro True.intro True.intro))) True.intro) True.intro)) True.intro)) True.intro)) (And.intro True.intro True.intro)))
theorem k_middle_throws : Known P w (SX K nm) mg base 3 "middle_throws" 2 s_middle_throws := by
  obtain ⟨fd, F⟩ := c.def_ 31 (d := d_middle_throws) rfl
  have F : FunD (SX K nm).K "middle_throws" "middle_throws" (defArgs t_middle_throws) (defBody t_middle_throws) (defScope t_middle_throws) [] [] (He.fAd K ("middle_throws", none)) fd := F
  exact known_of (lev := 2) (N := ["book", "order", "found", "place", "work", "other"]) (ps := ["book", "order"]) (TX X G c) F sc_middle_throws (byGlo c X G (by decide +kernel)) rfl rfl (F.bindsN fun _ _ _ _ _ _ us hl => match us, hl with | [_, _], _ => rfl) ck_middle_throws (n_middle_throws X G c ce)
theorem n_law : knSs (KnAt P w mg base (SX K nm) 40) ir_law :=
  (And.intro (And.intro (Exists.intro 1 (And.intro (by decide : 1 ≤ 40) (k__law_pool X G c ce))) (And.intro True.intro True.intro)) (And.intro (And.intro True.intro (And.intro (And.intro True.intro (And.intro (Exists.intro 1 (And.intro (by decide : 1 ≤ 40) (k__law_draw X G c ce))) (And.intro True.intro (And.intro (And.intro (And.intro True.intro (And.intro True.intro (And.intro True.intro (And.intro True.intro True.intro)))) True.intro) True.intro)))) (And.intro (And.intro (And.intro (And.intro True.intro True.intro) (And.intro (And.intro (Exists.intro 1 (And.intro (by decide : 1 ≤ 40) (k__law_draw X G c ce))) (And.intro True.intro (And.intro True.intro True.intro))) True.intro)) (And.intro (And.intro True.intro True.intro) True.intro)) (And.intro (And.intro (Exists.intro 3 (And.intro (by decide : 3 ≤ 40) (k__law_book_windows X G c ce))) (And.intro True.intro (And.intro True.intro True.intro))) (And.intro (And.intro (Exists.intro 4 (And.intro (by decide : 4 + 1 ≤ 40) (k_Book_init X G c ce))) (And.intro True.intro True.intro)) (And.intro (And.intro (Exists.intro 4 (And.intro (by decide : 4 ≤ 40) (k__law_near_order X G c ce))) (And.intro True.intro (And.intro True.intro True.intro))) (And.intro (And.intro (Exists.intro 2 (And.intro (by decide : 2 ≤ 40) (k__law_throws X G c ce))) (And.intro True.intro (And.intro True.intro True.intro))) (And.intro (And.intro (Exists.intro 7 (And.intro (by decide : 7 ≤ 40) (kN_throws X G c ce))) (And.intro True.intro (And.intro True.intro True.intro))) (And.intro (And.intro (And.intro (And.intro True.intro (And.intro True.intro True.intro)) (And.intro (And.intro True.intro True.intro) (And.intro (And.intro (by decide : 40 ≤ 40) True.intro) (And.intro (by decide : 40 ≤ 40) True.intro)))) (And.intro (And.intro True.intro True.intro) True.intro)) (And.intro (And.intro (And.intro (Exists.intro 1 (And.intro (by decide : 1 ≤ 40) (k__law_flag X G c ce))) (And.intro (And.intro (Exists.intro 6 (And.intro (by decide : 6 ≤ 40) (k_is_one_order X G c ce))) (And.intro True.intro (And.intro True.intro True.intro))) (And.intro (And.intro (And.intro True.intro True.intro) True.intro) True.intro))) (And.intro (And.intro True.intro True.intro) True.intro)) (And.intro True.intro (And.intro (And.intro (And.intro (And.intro (Exists.intro 7 (And.intro (by decide : 7 ≤ 40) (k_throws X G c ce))) (And.intro True.intro (And.intro True.intro True.intro))) True.intro) (And.intro (And.intro True.intro True.intro) True.intro)) True.intro)))))))))))) (And.intro True.intro True.intro)))
end
theorem holds_of (hs : ∀ ns : List Int, ns.length ≤ 63 → ∃ g, s_law [.scr ns] none = .ok (.bl true) g) : PySem.Challenge.rw_bymiddles_k37_whole_throws_by_all_threes.Holds := by
  w_on; o_law
  refine HandSHeadRun.head_any (r := PySem.W.OpenLaw.row PySem.Challenge.rw_bymiddles_k37_whole_throws_by_all_threes) (q := PySem.W.view (PySem.W.OpenLaw.row PySem.Challenge.rw_bymiddles_k37_whole_throws_by_all_threes).prog [42]) (H := hk) (ob := ob) (M := 2580) (loose := names) (d := HandSHeadRun.topDef (PySem.W.OpenLaw.row PySem.Challenge.rw_bymiddles_k37_whole_throws_by_all_threes).prog 42) (kwd := []) ob_eq
    (by kernel_rfl) (fun s => by kernel_rfl) run (by kernel_rfl) (by kernel_rfl) (by kernel_rfl) (by rfl) (by first | assumption | decide +kernel) (by decide +kernel) ⟨rfl, rfl, rfl, rfl, rfl, by decide +kernel⟩ ?hw ?hc
  case hw => w_witness2
  case hc =>
    refine walkG (l := PySem.Challenge.rw_bymiddles_k37_whole_throws_by_all_threes) rfl (by kernel_rfl) ?F
    intro w mg f h Y G hmg0
    obtain ⟨⟨K, KX, cX⟩, hsys⟩ := Y
    have c := cX.t.d
    have hmg : mg ("law" : Str) = some (.ref f) := by
      have e : (HandSHeadRun.topDef (PySem.W.OpenLaw.row PySem.Challenge.rw_bymiddles_k37_whole_throws_by_all_threes).prog 42).name = ("law" : Str) := by kernel_rfl
      rw [← e]
      exact hmg0
    obtain ⟨fd, F⟩ := c.def_ 32 (d := d_law) rfl
    have F : FunD K "law" "law" (defArgs t_law) (defBody t_law) (defScope t_law) [] [] (He.fAd K ("law", none)) fd := F
    have e := hmg.symm.trans (byGlo c KX G (x := "law") (by decide +kernel))
    cases e
    exact ⟨K, KX, hsys, fun base s1 H a ns kb nb hsm env0 hl sq => topD (S := SX K nm) (lev := 40) (N := ["_law_script", "_law_pool_here", "_law_turn", "_law_many", "_law_windows_here", "_law_book", "_law_order", "_law_due", "_law_told"]) (ps := ["_law_script"]) F sc_law hsm
      (fun Y Wx W0 H0 C => okSs (TX KX G c) (fun _ => rfl) (fun p hp => by cases hp) ir_law _ Wx Y W0 C ck_law (n_law KX G c cX.more))
      rfl ⟨rfl, by decide, by decide⟩ env0 (FunD.bindsA (ps := ["_law_script"]) F (fun _ _ _ _ _ _ us hl => match us, hl with | [_], _ => rfl) s1 [.ref a] rfl) (.cons (show RelV (V.ref a) (Value.ref a) from rfl) .nil) (sp_law (S := SX K nm) sq (hs ns hl))⟩
end K37
end
section
set_option maxHeartbeats 2000000
namespace K37
open PySem Dv Pg Pm L2
/-! extending, exchanging -/
theorem e_ext (m : Bool) (hd : List Nat) (i : Nat) (e : IR) : evS m (.ext hd i e) = sExt m hd i (ev e).v := rfl
theorem e_swp (m : Bool) (i ka kb : Nat) (e : IR) : evS m (.swp i ka kb e) = sSwp m i ka kb (ev e).v := rfl
theorem s_ext (m : Bool) (hd : List Nat) (i : Nat) (f : Dv.Env → M D) (env : Dv.Env) (g : G) : sExt m hd i f env g = (match ownL env i with | none => .stuck | some _ => (match f (wipeE env hd) g with | .ok d g' => (match after m hd (imm d) env with | some env' => (match d with | .lst es => (match ownL env' i with | some ds => if ds.length + es.length ≤ sizeLine then .ok (.nx (env'.set i (some (.lst (ds ++ es), true)))) g' else .stuck | none => .stuck) | .tup es => (match ownL env' i with | some ds => if ds.length + es.length ≤ sizeLine then .ok (.nx (env'.set i (some (.lst (ds ++ es), true)))) g' else .stuck | none => .stuck) | _ => .stuck) | none => .stuck) | .err e g' => errS e env g' | .stuck => .stuck)) := by
  unfold sExt
  cases ownL env i with
  | none => rfl
  | some _ =>
    cases hf : f (wipeE env hd) g with
    | ok d g' =>
      cases ha : after m hd (imm d) env with
      | none => first | (simp only [onD, hf, ha]; done) | (simp only [onD, hf, ha]; rfl) | simp [onD, hf, ha]
      | some env' => cases d <;> first | (simp only [onD, hf, ha]; done) | (simp only [onD, hf, ha]; rfl) | simp [onD, hf, ha]
    | err e g' => first | (simp only [onD, hf]; done) | (simp only [onD, hf]; rfl) | simp [onD, hf]
    | stuck => first | (simp only [onD, hf]; done) | (simp only [onD, hf]; rfl) | simp [onD, hf]
/-! throws, as lists of words -/
def wn (ws : Ws) (k : Nat) : Int × Int := ws.getD k (0, 0)
def midV (ws : Ws) (k : Nat) : Int := (wn ws k).1 + (wn ws k).2
/-- a lies within b -/
def wiB (ws : Ws) (a b : Nat) : Bool := decide ((wn ws b).1 < (wn ws a).1) && decide ((wn ws a).2 < (wn ws b).2)
theorem wn_of (ws : Ws) (k : Nat) (h : k < ws.length) : wn ws k = ws[k] := by
  unfold wn; rw [List.getD_eq_getElem?_getD, List.getElem?_eq_getElem h]; rfl
def mW (a b : Nat) : Wd := ("middle", [(a : Int), (b : Int)])
def fW (a b c : Nat) : Wd := ("front", [(a : Int), (b : Int), (c : Int)])
def bW (a b c : Nat) : Wd := ("back", [(a : Int), (b : Int), (c : Int)])
theorem mW_D (a b : Nat) : wD (mW a b) = .tup [.str "middle", natD a, natD b] := rfl
theorem fW_D (a b c : Nat) : wD (fW a b c) = .tup [.str "front", natD a, natD b, natD c] := rfl
theorem bW_D (a b c : Nat) : wD (bW a b c) = .tup [.str "back", natD a, natD b, natD c] := rfl
/-- of two works, the first one ahead -/
def mG (ws : Ws) (a b : Nat) : List Wd := if midV ws b < midV ws a then [mW a b] else []
/-- over a, b within it, some behind a -/
def fG (ws : Ws) (beh : List Nat) (a b : Nat) : List Wd := if wiB ws b a = true then (beh.filter fun c => decide ((wn ws c).1 < midV ws b - (wn ws a).1)).map (fW a b) else []
def bG (ws : Ws) (ahd : List Nat) (a b : Nat) : List Wd := if wiB ws b a = true then (ahd.filter fun c => decide (midV ws b - (wn ws a).2 < (wn ws c).2)).map (bW a b) else []
theorem flat_len {α β : Type} (G : α → List β) (c : Nat) : ∀ xs : List α, (∀ x ∈ xs, (G x).length ≤ c) → (xs.flatMap G).length ≤ xs.length * c
  | [], _ => by simp
  | x :: xs, h => by
    have h1 := h x List.mem_cons_self
    have h2 := flat_len G c xs fun y hy => h y (List.mem_cons_of_mem _ hy)
    rw [List.flatMap_cons, List.length_append, List.length_cons, Nat.succ_mul]
    omega
theorem mG_len (ws : Ws) (a b : Nat) : (mG ws a b).length ≤ 1 := by unfold mG; split <;> simp
theorem fG_len (ws : Ws) (l : List Nat) (a b : Nat) : (fG ws l a b).length ≤ l.length := by
  unfold fG; split
  · rw [List.length_map]; exact List.length_filter_le _ _
  · simp
theorem bG_len (ws : Ws) (l : List Nat) (a b : Nat) : (bG ws l a b).length ≤ l.length := by
  unfold bG; split
  · rw [List.length_map]; exact List.length_filter_le _ _
  · simp
/-! the values -/
section
variable (ws : Ws)
theorem middle_of_ok (i : Nat) (h : i < ws.length) (g : G) : s_middle_of [bookD ws, natD i] g = .ok (.int (midV ws i)) g := by
  show s_middle_of [bookD ws, .int (i : Nat)] g = _
  simp [s_middle_of, ir_middle_of, runD, EI, ES, EV, EG, envOf, wipeE, endM, imm, after, first_of_ok ws i h, last_of_ok ws i h, binO, addD, midV, wn_of ws i h]
theorem first_ok (i : Nat) (h : i < ws.length) (g : G) : s_first_of [bookD ws, natD i] g = .ok (.int (wn ws i).1) g := by
  rw [wn_of ws i h]; exact first_of_ok ws i h g
theorem last_ok (i : Nat) (h : i < ws.length) (g : G) : s_last_of [bookD ws, natD i] g = .ok (.int (wn ws i).2) g := by
  rw [wn_of ws i h]; exact last_of_ok ws i h g
theorem lies_within_ok (i j : Nat) (hi : i < ws.length) (hj : j < ws.length) (g : G) : s_lies_within [bookD ws, natD i, natD j] g = .ok (.bl (wiB ws i j)) g := by
  have a1 := fun g => first_ok ws i hi g
  have a2 := fun g => last_ok ws i hi g
  have a3 := fun g => first_ok ws j hj g
  have a4 := fun g => last_ok ws j hj g
  have im : ∀ k, imm (natD k) = true := fun _ => rfl
  unfold wiB
  by_cases h : (wn ws j).1 < (wn ws i).1 <;>
  simp [s_lies_within, ir_lies_within, runD, EI, ES, EV, EG, envOf, wipeE, endM, imm, after, a1, a2, a3, a4, cmpO, cmpD, intCmp, asB, tru, h]
theorem idx_winsN (k : Nat) (h : k < ws.length) : idxO (winsD ws) (natD k) = some (winD (wn ws k)) := by
  rw [wn_of ws k h]; exact idx_wins ws k h
theorem law_middle_ok (i : Nat) (h : i < ws.length) (g : G) : s__law_middle [winsD ws, natD i] g = .ok (.int (midV ws i)) g := by
  have e := idx_winsN ws i h
  have e0 : idxO (winD (wn ws i)) (.int 0) = some (.int (wn ws i).1) := at20 _ _
  have e1 : idxO (winD (wn ws i)) (.int 1) = some (.int (wn ws i).2) := at21 _ _
  simp [s__law_middle, ir__law_middle, runD, EI, ES, EV, EG, envOf, wipeE, endM, imm, after, e, e0, e1, binO, addD, midV]
theorem law_within_ok (i j : Nat) (hi : i < ws.length) (hj : j < ws.length) (g : G) : s__law_within [winsD ws, natD i, natD j] g = .ok (.bl (wiB ws i j)) g := by
  have e := idx_winsN ws i hi
  have e' := idx_winsN ws j hj
  have e0 : ∀ k, idxO (winD (wn ws k)) (.int 0) = some (.int (wn ws k).1) := fun _ => at20 _ _
  have e1 : ∀ k, idxO (winD (wn ws k)) (.int 1) = some (.int (wn ws k).2) := fun _ => at21 _ _
  unfold wiB
  by_cases h : (wn ws j).1 < (wn ws i).1 <;>
  simp [s__law_within, ir__law_within, runD, EI, ES, EV, EG, envOf, wipeE, endM, imm, after, e, e', e0, e1, cmpO, cmpD, intCmp, asB, tru, h]
theorem row_okL (l : List Nat) (hl : l.length ≤ 100000) (p : PSt) : ∃ (r : List Nat) (p' : PSt), s__law_row [.pool, lrowD l] (some p) = .ok (rowD r) (some p') ∧ r.Perm l := by
  obtain ⟨xs, p', h1, h2⟩ := popGo_ok l.length l p rfl hl
  refine ⟨xs, p', ?_, h2⟩
  have hr : rng1O [.int (l.length : Nat)] = some ((List.range l.length).map fun i => D.int (i : Nat)) := rng1_nat _ (by omega)
  have hs : l.length ≤ sizeLine := fits _ hl
  have hk : kids (.lst (l.map natD)) = true := imms_row l
  have hlen : lenF (lrowD l) = some (.int (l.length : Nat)) := by unfold lrowD lenF; simp
  have hlst : lstF (lrowD l) = some (.lst (l.map natD)) := rfl
  simp [s__law_row, ir__law_row, runD, EI, ES, EV, EV2, EG, envOf, wipeE, endM, after, biO, one1, hlst, hk, sRow, onI, ownL, slotD, hlen, hr, h1, hs]
  rfl
end
/-! sorted -/
theorem intsD_ints (ns : List Int) : intsD (ns.map D.int) = some ns := intsD_map ns
theorem wordsD_map : ∀ l : List Wd, wordsD (l.map wD) = some l
  | [] => rfl
  | p :: l => by
    have h1 : wordD (wD p) = some p := by
      show (intsD (p.2.map D.int)).map _ = _
      rw [intsD_ints]; rfl
    show (match wordD (wD p), wordsD (l.map wD) with | some p, some ps => some (p :: ps) | _, _ => none) = _
    rw [h1, wordsD_map l]
theorem sortF_w (l : List Wd) : sortF (l.map wD) = some (.lst ((sortW l).map wD)) := by
  unfold sortF
  cases l with
  | nil => rfl
  | cons p r =>
    have h1 : intsD ((p :: r).map wD) = none := rfl
    have h2 : pairsD ((p :: r).map wD) = none := by
      have : pairD (wD p) = none := by
        unfold pairD wD
        split
        · rename_i a b h
          injection h with h
          injection h with h
          cases h
        · rfl
      show (match pairD (wD p), pairsD (r.map wD) with | some p, some ps => some (p :: ps) | _, _ => none) = none
      rw [this]
    rw [h1, h2]
    simp only
    rw [wordsD_map]
    rfl
end K37
end
section
set_option maxHeartbeats 2000000
namespace K37
open PySem Dv Pg Pm L2
/-! the program's loops -/
def ir_mi : SIs := (.cons (.ifs (.cmp .Gt (.call "middle_of" 2 s_middle_of (.cons (.var 0) (.cons (.var 4) .nil))) (.call "middle_of" 2 s_middle_of (.cons (.var 0) (.cons (.var 5) .nil))))
 (.cons (.app [2] 2 (.tup (.cons (.cst (.str "middle")) (.cons (.var 4) (.cons (.var 5) .nil)))))
 .nil)
 .nil)
 .nil)
def ir_mo : SIs := (.cons (.for [2] (.one 5) (.seq (.slc (.var 1) (.bin .Add (.var 3) (.cst (.int 1))) .nop)) ir_mi) .nil)
theorem size_lt {n : Nat} (h : n ≤ 1000000) : n < sizeLine := by rw [sizeLine_eq]; omega
theorem size_le {n : Nat} (h : n ≤ 1000000) : n ≤ sizeLine := by rw [sizeLine_eq]; omega
theorem fz_fl (o : Option D) : fz (fl o) = fl o := by cases o <;> rfl
theorem aM (y0 y1 : Option D) (x2 : Option (D × Bool)) (y3 y4 y5 : Option D) (b : Bool) : after false [2] b [fl y0, fl y1, x2, fl y3, fl y4, fl y5] = some [fl y0, fl y1, x2, fl y3, fl y4, fl y5] := by
  cases b with
  | true => rfl
  | false =>
    show some (frzE _ _) = _
    rw [frz_r]
    simp only [frzR, fz_fl]
    rfl
theorem slc_row (r : List Nat) (i : Nat) (h : i ≤ r.length) : slcO (rowD r) (some (i : Int)) none = some (rowD (r.drop i)) := by
  unfold slcO rowD
  simp only
  rw [cutL_map, cut_from r i h]
theorem slc_rowT (r : List Nat) (i : Nat) (h : i ≤ r.length) : slcO (rowD r) none (some (i : Int)) = some (rowD (r.take i)) := by
  unfold slcO rowD
  simp only
  rw [cutL_map, cut_to r i h]
theorem seq_row (r : List Nat) : seqO (rowD r) = some (r.map natD) := rfl
section
variable (ws : Ws) (r : List Nat)
theorem mi_ok (i a b : Nat) (ha : a < ws.length) (hb : b < ws.length) (acc : List Wd) (hacc : acc.length ≤ 500000) (x3 : Option (D × Bool)) (g : G) :
    evSs false ir_mi [some (bookD ws, false), some (rowD r, false), some (.lst (acc.map wD), true), x3, some (natD a, false), some (natD b, false)] g =
      .ok (.nx [some (bookD ws, false), some (rowD r, false), some (.lst ((acc ++ mG ws a b).map wD), true), x3, some (natD a, false), some (natD b, false)]) g := by
  have e1 := fun g => middle_of_ok ws a ha g
  have e2 := fun g => middle_of_ok ws b hb g
  have hs : (acc.map wD).length < sizeLine := size_lt (by rw [List.length_map]; omega)
  have im : imm (.tup [.str "middle", natD a, natD b]) = true := rfl
  have hm := mW_D a b
  have c : cmpO .Gt (.int (midV ws a)) (.int (midV ws b)) = some (.bl (decide (midV ws b < midV ws a))) := rfl
  have trb : ∀ b, tru (.bl b) = some b := fun _ => rfl
  unfold mG
  rw [List.map_append]
  generalize acc.map wD = L at *
  by_cases h : midV ws b < midV ws a
  · simp [ir_mi, EI, ES, EV, EG, wipeE, after_imm, e1, e2, c, trb, h, s_app, ownL, sz3, im, hs, hm]
  · simp [ir_mi, EI, ES, EV, EG, wipeE, after_imm, e1, e2, c, trb, h]
theorem mo_ok (hr : ∀ k ∈ r, k < ws.length) (hn : r.length ≤ 100) (i : Nat) (hi : i < r.length) (acc : List Wd) (hacc : acc.length ≤ 400000) (y5 : Option D) (g : G) : ∃ z5,
    evSs false ir_mo [some (bookD ws, false), some (rowD r, false), some (.lst (acc.map wD), true), some (natD i, false), some (natD r[i], false), fl y5] g =
      .ok (.nx [some (bookD ws, false), some (rowD r, false), some (.lst ((acc ++ (r.drop (i + 1)).flatMap (mG ws r[i])).map wD), true), some (natD i, false), some (natD r[i], false), fl z5]) g := by
  have ha := hr _ (List.getElem_mem hi)
  generalize r[i] = a at *
  obtain ⟨env', g', e1, z5, he, hg⟩ := forGo_inv (t := .one 5) (b := evSs false ir_mi) (ds := (r.drop (i + 1)).map natD)
    (fun j env g2 => ∃ z5, env = [some (bookD ws, false), some (rowD r, false), some (.lst ((acc ++ ((r.drop (i + 1)).take j).flatMap (mG ws a)).map wD), true), some (natD i, false), some (natD a, false), fl z5] ∧ g2 = g)
    (env := [some (bookD ws, false), some (rowD r, false), some (.lst (acc.map wD), true), some (natD i, false), some (natD a, false), fl y5]) (g := g) ⟨y5, by simp, rfl⟩
    fun j hj env g2 ⟨z5, he, hg⟩ => by
      subst he hg
      have hj' : j < (r.drop (i + 1)).length := by simpa using hj
      have hb : (r.drop (i + 1))[j] < ws.length := hr _ (List.mem_of_mem_drop (List.getElem_mem hj'))
      have hl : (((r.drop (i + 1)).take j).flatMap (mG ws a)).length ≤ 100 * 1 := Nat.le_trans (flat_len _ 1 _ fun x _ => mG_len ws a x) (Nat.mul_le_mul_right _ (by rw [List.length_take, List.length_drop]; omega))
      have e := mi_ok ws r i a ((r.drop (i + 1))[j]) ha hb (acc ++ ((r.drop (i + 1)).take j).flatMap (mG ws a)) (by rw [List.length_append]; omega) (some (natD i, false)) g2
      refine ⟨_, by rw [List.getElem_map]; rfl, _, _, .inl e, some (natD ((r.drop (i + 1))[j])), ?_, rfl⟩
      rw [List.take_succ_eq_append_getElem hj', List.flatMap_append, List.append_assoc]
      simp [fl]
  subst he hg
  refine ⟨z5, ?_⟩
  rw [List.length_map, List.take_length] at e1
  have hs : slcO (rowD r) (some ((i : Int) + 1)) none = some (rowD (r.drop (i + 1))) := slc_row r (i + 1) (by omega)
  have hs2 := seq_row (r.drop (i + 1))
  have a0 : binO .Add (natD i) (.int 1) = some (.int ((i : Int) + 1)) := rfl
  have aI : ∀ z, asI (.int z) = some z := fun _ => rfl
  have af := fun b => aM (some (bookD ws)) (some (rowD r)) (some (.lst (acc.map wD), true)) (some (natD i)) (some (natD a)) y5 b
  generalize (acc ++ (r.drop (i + 1)).flatMap (mG ws a)).map wD = L2 at *
  generalize acc.map wD = L at *
  generalize rowD (r.drop (i + 1)) = R2 at *
  generalize rowD r = R1 at *
  generalize (r.drop (i + 1)).map natD = DS at *
  generalize hB : ir_mi = B at e1
  unfold ir_mo
  rw [hB]
  simp only [fl, Option.map_some] at af e1
  simp [EI, ES, EV, EV2, EG, wipeE, fl, af, isRng, a0, aI, hs, hs2, e1]
def midL (ws : Ws) (r : List Nat) : List Wd := (List.range r.length).flatMap fun i => (r.drop (i + 1)).flatMap (mG ws (r.getD i 0))
theorem getD_r (r : List Nat) (i : Nat) (h : i < r.length) : r.getD i 0 = r[i] := by
  rw [List.getD_eq_getElem?_getD, List.getElem?_eq_getElem h]; rfl
theorem range_succ_flat {β : Type} (G : Nat → List β) (i : Nat) : (List.range (i + 1)).flatMap G = (List.range i).flatMap G ++ G i := by
  rw [List.range_succ, List.flatMap_append]; simp
theorem mid_len (ws : Ws) (r : List Nat) (n : Nat) (hr : r.length ≤ 100) (hn : n ≤ 100) : ((List.range n).flatMap fun i => (r.drop (i + 1)).flatMap (mG ws (r.getD i 0))).length ≤ 10000 := by
  have h := flat_len (fun i => (r.drop (i + 1)).flatMap (mG ws (r.getD i 0))) 100 (List.range n) fun i _ => by
    have h2 := flat_len (mG ws (r.getD i 0)) 1 (r.drop (i + 1)) fun x _ => mG_len ws _ x
    have h3 : (r.drop (i + 1)).length ≤ 100 := by rw [List.length_drop]; omega
    omega
  rw [List.length_range] at h
  have : n * 100 ≤ 100 * 100 := Nat.mul_le_mul_right _ hn
  omega
theorem middle_throws_ok (hr : ∀ k ∈ r, k < ws.length) (hn : r.length ≤ 100) (g : G) : sN_middle_throws [bookD ws, rowD r] g = .ok (.lst ((midL ws r).map wD)) g := by
  have he : enumO [rowD r] = some (enumD 0 (r.map natD)) := rfl
  have hlen : (enumD 0 (r.map natD)).length = r.length := by rw [enumD_len, List.length_map]
  obtain ⟨env', g', e1, z3, z4, z5, he', hg⟩ := forGo_inv (t := .many [3, 4]) (b := evSs false ir_mo) (ds := enumD 0 (r.map natD))
    (fun i env g2 => ∃ z3 z4 z5, env = [some (bookD ws, false), some (rowD r, false), some (.lst (((List.range i).flatMap fun i => (r.drop (i + 1)).flatMap (mG ws (r.getD i 0))).map wD), true), fl z3, fl z4, fl z5] ∧ g2 = g)
    (env := [some (bookD ws, false), some (rowD r, false), some (.lst [], true), none, none, none]) (g := g) ⟨none, none, none, rfl, rfl⟩
    fun i hi env g2 ⟨z3, z4, z5, he', hg⟩ => by
      subst he' hg
      have hi' : i < r.length := by rw [hlen] at hi; exact hi
      obtain ⟨d, hd, hd2⟩ := enumD_get (List.getElem?_eq_getElem hi)
      rw [List.getElem?_map, List.getElem?_eq_getElem hi'] at hd
      cases hd
      rw [hd2]
      have hl := mid_len ws r i hn (by omega)
      obtain ⟨y5, e⟩ := mo_ok ws r hr hn i hi' ((List.range i).flatMap fun i => (r.drop (i + 1)).flatMap (mG ws (r.getD i 0))) (by omega) z5 g2
      refine ⟨_, by simp [setTg, setAll]; rfl, _, _, .inl e, some (natD i), some (natD r[i]), y5, ?_, rfl⟩
      rw [range_succ_flat, getD_r r i hi']
      rfl
  subst he' hg
  rw [hlen] at e1
  unfold midL sN_middle_throws
  have af := fun b => aM (some (bookD ws)) (some (rowD r)) (some (.lst [], true)) none none none b
  have eq : irN_middle_throws = (.cons (.own [2] 2 (.lst .nil))
   (.cons (.for [2] (.many [3, 4]) (.enum (.var 1)) ir_mo)
   (.cons (.ret [] (.var 2))
   .nil))) := rfl
  rw [eq]
  generalize ((List.range r.length).flatMap fun i => (r.drop (i + 1)).flatMap (mG ws (r.getD i 0))).map wD = L2 at *
  generalize enumD 0 (r.map natD) = DS at *
  generalize rowD r = R1 at *
  generalize ir_mo = B at e1
  have k0 : kids (.lst []) = true := rfl
  simp only [fl, Option.map_some, Option.map_none] at af e1
  simp [Dv.runN, EI, ES, EV, EV2, EG, ERF, envOf, wipeE, fl, af, after_imm, k0, sz0, isRng, he, e1]
end
end K37
end
section
set_option maxHeartbeats 2000000
namespace K37
open PySem Dv Pg Pm L2
section
variable (ws : Ws) (r : List Nat)

/-! front throws -/
def ir_fb : SIs := (.cons (.ifs (.call "lies_within" 3 s_lies_within (.cons (.var 0) (.cons (.var 5) (.cons (.var 3) .nil))))
 (.cons (.set [4, 7] (.one 6) (.bin .Sub (.call "middle_of" 2 s_middle_of (.cons (.var 0) (.cons (.var 5) .nil))) (.call "first_of" 2 Pg.s_first_of (.cons (.var 0) (.cons (.var 3) .nil)))))
 (.cons (.own [4, 7] 7 (.comp [("third", 8)] (.one 8) (.seq (.slc (.var 1) (.bin .Add (.var 2) (.cst (.int 1))) .nop)) (.cmp .Lt (.call "first_of" 2 Pg.s_first_of (.cons (.var 0) (.cons (.var 8) .nil))) (.var 6)) (.var 8)))
 (.cons (.ext [4] 4 (.comp [("third", 8)] (.one 8) (.seq (.var 7)) .yes (.tup (.cons (.cst (.str "front")) (.cons (.var 3) (.cons (.var 5) (.cons (.var 8) .nil)))))))
 .nil)))
 .nil)
 .nil)
theorem ir_f_eq : ir_front_throws = (.cons (.set [4, 7] (.one 3) (.idx (.var 1) (.var 2)))
 (.cons (.own [4, 7] 4 (.lst .nil))
 (.cons (.for [4, 7] (.one 5) (.seq (.slc (.var 1) .nop (.var 2))) ir_fb)
 (.cons (.ret [7] (.var 4))
 .nil)))) := rfl
theorem fc1 (hr : ∀ k ∈ r, k < ws.length) (hn : r.length ≤ 100) (i : Nat) (hi : i < r.length) (z : Int) (e3 e4 e5 e7 e8 : Option (D × Bool)) (g : G) :
    compM [8] (.one 8) (seqM (slcM (getM 1) (someP (bind2 (binO .Add) (getM 2) fun _ => M.ret (.int 1))) noP)) (truM (bind2 (cmpO .Lt) (callM 2 s_first_of (consM (getM 0) (consM (getM 8) nilM))) (getM 6))) (getM 8)
      [some (bookD ws, false), some (rowD r, false), some (natD i, false), e3, e4, e5, some (.int z, false), e7, e8] g = .ok (lrowD ((r.drop (i + 1)).filter fun x => decide ((wn ws x).1 < z))) g := by
  rw [g_compM]
  have hs : slcO (rowD r) (some ((i : Int) + 1)) none = some (rowD (r.drop (i + 1))) := slc_row r (i + 1) (by omega)
  have a0 : binO .Add (natD i) (.int 1) = some (.int ((i : Int) + 1)) := rfl
  have aI : ∀ z, asI (.int z) = some z := fun _ => rfl
  have aN : asI (natD i) = some (i : Int) := rfl
  have h1 : seqM (slcM (getM 1) (someP (bind2 (binO .Add) (getM 2) fun _ => M.ret (.int 1))) noP) [some (bookD ws, false), some (rowD r, false), some (natD i, false), e3, e4, e5, some (.int z, false), e7, e8] g = .ok ((r.drop (i + 1)).map natD) g := by
    have hs2 := seq_row (r.drop (i + 1))
    generalize (r.drop (i + 1)).map natD = DS at *
    generalize rowD (r.drop (i + 1)) = R2 at *
    generalize rowD r = R1 at *
    simp [EG, a0, aI, aN, hs, hs2]
  rw [h1]
  simp only
  have hlT : (r.drop (i + 1)).length ≤ 100 := by rw [List.length_drop]; omega
  rw [if_pos (fits _ (by rw [List.length_map]; omega)), compGo_map _ natD (fun x => decide ((wn ws x).1 < z)) natD g (r.drop (i + 1)) fun x hx => ?_]
  · rfl
  have e := fun g => first_ok ws x (hr _ (List.mem_of_mem_drop hx)) g
  have c : cmpO .Lt (.int (wn ws x).1) (.int z) = some (.bl (decide ((wn ws x).1 < z))) := rfl
  have trb : ∀ b, tru (.bl b) = some b := fun _ => rfl
  rw [g_step1]
  simp [EG, wipeE, e, c, trb]
  split <;> rfl
theorem fc2 (i a b : Nat) (ts : List Nat) (hts : ts.length ≤ 100) (e0 e1 e2 e4 e6 e8 : Option (D × Bool)) (q : Bool) (g : G) :
    compM [8] (.one 8) (seqM (getM 7)) yesT (thenM (consM (fun _ => M.ret (.str "front")) (consM (getM 3) (consM (getM 5) (consM (getM 8) nilM)))) (sizeOk .tup))
      [e0, e1, e2, some (natD a, false), e4, some (natD b, false), e6, some (lrowD ts, q), e8] g = .ok (.lst ((ts.map (fW a b)).map wD)) g := by
  rw [g_compM]
  have h1 : seqM (getM 7) [e0, e1, e2, some (natD a, false), e4, some (natD b, false), e6, some (lrowD ts, q), e8] g = .ok (ts.map natD) g := by
    have hs2 : seqO (lrowD ts) = some (ts.map natD) := rfl
    generalize ts.map natD = DS at *
    generalize lrowD ts = R2 at *
    simp [EG, hs2]
  rw [h1]
  simp only
  rw [if_pos (fits _ (by rw [List.length_map]; omega)), compGo_all _ natD (fun c => wD (fW a b c)) g ts fun x hx => ?_]
  · rw [List.map_map]; rfl
  rw [g_step1]
  simp [EG, wipeE, sz4, fW_D]
theorem fb_ok (hr : ∀ k ∈ r, k < ws.length) (hn : r.length ≤ 100) (i : Nat) (hi : i < r.length) (a b : Nat) (ha : a < ws.length) (hb : b < ws.length) (acc : List Wd) (hacc : acc.length ≤ 500000) (y6 y8 : Option D) (x7 : Option (D × Bool)) (g : G) : ∃ z6 u7,
    evSs false ir_fb [some (bookD ws, false), some (rowD r, false), some (natD i, false), some (natD a, false), some (.lst (acc.map wD), true), some (natD b, false), fl y6, x7, fl y8] g =
      .ok (.nx [some (bookD ws, false), some (rowD r, false), some (natD i, false), some (natD a, false), some (.lst ((acc ++ fG ws (r.drop (i + 1)) a b).map wD), true), some (natD b, false), fl z6, u7, fl y8]) g := by
  have e1 := fun g => lies_within_ok ws b a hb ha g
  have e2 := fun g => middle_of_ok ws b hb g
  have e3 := fun g => first_ok ws a ha g
  have trb : ∀ b, tru (.bl b) = some b := fun _ => rfl
  unfold fG
  rw [List.map_append]
  by_cases h : wiB ws b a = true
  · have hb0 : binO .Sub (.int (midV ws b)) (.int (wn ws a).1) = some (.int (midV ws b - (wn ws a).1)) := rfl
    have c1 := fc1 ws r hr hn i hi (midV ws b - (wn ws a).1) (some (natD a, false)) none (some (natD b, false)) none (fl y8) g
    have hl : ((r.drop (i + 1)).filter fun c => decide ((wn ws c).1 < midV ws b - (wn ws a).1)).length ≤ 100 := Nat.le_trans (List.length_filter_le _ _) (by rw [List.length_drop]; omega)
    have c2 := fun e4 q => fc2 i a b ((r.drop (i + 1)).filter fun c => decide ((wn ws c).1 < midV ws b - (wn ws a).1)) hl (some (bookD ws, false)) (some (rowD r, false)) (some (natD i, false)) e4 (some (.int (midV ws b - (wn ws a).1), false)) (fl y8) q g
    have hsz : acc.length + (((r.drop (i + 1)).filter fun c => decide ((wn ws c).1 < midV ws b - (wn ws a).1)).map (fW a b)).length ≤ sizeLine := size_le (by rw [List.length_map]; omega)
    rw [if_pos h]
    generalize ((r.drop (i + 1)).filter fun c => decide ((wn ws c).1 < midV ws b - (wn ws a).1)) = ts at *
    have k1 : kids (lrowD ts) = true := imms_row ts
    have iw : imm (.lst ((ts.map (fW a b)).map wD)) = false := rfl
    have hsz2 : (acc.map wD).length + ((ts.map (fW a b)).map wD).length ≤ sizeLine := by rw [List.length_map, List.length_map]; exact hsz
    generalize (ts.map (fW a b)).map wD = TW at *
    generalize acc.map wD = L at *
    have c2' := c2 none true
    have hz : frzE [4] [some (bookD ws, false), some (rowD r, false), some (natD i, false), some (natD a, false), some (.lst L, true), some (natD b, false), some (.int (midV ws b - (wn ws a).1), false), some (lrowD ts, true), fl y8] = [some (bookD ws, false), some (rowD r, false), some (natD i, false), some (natD a, false), some (.lst L, true), some (natD b, false), some (.int (midV ws b - (wn ws a).1), false), some (lrowD ts, false), fl y8] := by
      rw [frz_r]
      simp only [frzR, fz_fl]
      rfl
    refine ⟨some (.int (midV ws b - (wn ws a).1)), some (lrowD ts, false), ?_⟩
    generalize lrowD ts = TL at *
    have im : ∀ z, imm (.int z) = true := fun _ => rfl
    simp only [fl] at c1 c2' hz
    simp [ir_fb, EI, ES, EV, EV2, EG, wipeE, fl, after_imm, after_f, setTg, e1, e2, e3, trb, h, hb0, im, c1, c2', k1, iw, hz, e_ext, s_ext, ownL, hsz2]
  · have h' : wiB ws b a = false := by simpa using h
    refine ⟨y6, x7, ?_⟩
    rw [if_neg h]
    simp [ir_fb, EI, ES, EV, EG, wipeE, fl, e1, trb, h']

/-! back throws -/
def ir_bb : SIs := (.cons (.ifs (.call "lies_within" 3 s_lies_within (.cons (.var 0) (.cons (.var 5) (.cons (.var 3) .nil))))
 (.cons (.set [4, 7] (.one 6) (.bin .Sub (.call "middle_of" 2 s_middle_of (.cons (.var 0) (.cons (.var 5) .nil))) (.call "last_of" 2 Pg.s_last_of (.cons (.var 0) (.cons (.var 3) .nil)))))
 (.cons (.own [4, 7] 7 (.comp [("third", 8)] (.one 8) (.seq (.slc (.var 1) .nop (.var 2))) (.cmp .Gt (.call "last_of" 2 Pg.s_last_of (.cons (.var 0) (.cons (.var 8) .nil))) (.var 6)) (.var 8)))
 (.cons (.ext [4] 4 (.comp [("third", 8)] (.one 8) (.seq (.var 7)) .yes (.tup (.cons (.cst (.str "back")) (.cons (.var 3) (.cons (.var 5) (.cons (.var 8) .nil)))))))
 .nil)))
 .nil)
 .nil)
theorem ir_b_eq : ir_back_throws = (.cons (.set [4, 7] (.one 3) (.idx (.var 1) (.var 2)))
 (.cons (.own [4, 7] 4 (.lst .nil))
 (.cons (.for [4, 7] (.one 5) (.seq (.slc (.var 1) (.bin .Add (.var 2) (.cst (.int 1))) .nop)) ir_bb)
 (.cons (.ret [7] (.var 4))
 .nil)))) := rfl
theorem bc1 (hr : ∀ k ∈ r, k < ws.length) (hn : r.length ≤ 100) (i : Nat) (hi : i < r.length) (z : Int) (e3 e4 e5 e7 e8 : Option (D × Bool)) (g : G) :
    compM [8] (.one 8) (seqM (slcM (getM 1) noP (someP (getM 2)))) (truM (bind2 (cmpO .Gt) (callM 2 s_last_of (consM (getM 0) (consM (getM 8) nilM))) (getM 6))) (getM 8)
      [some (bookD ws, false), some (rowD r, false), some (natD i, false), e3, e4, e5, some (.int z, false), e7, e8] g = .ok (lrowD ((r.take i).filter fun x => decide (z < (wn ws x).2))) g := by
  rw [g_compM]
  have hs : slcO (rowD r) none (some (i : Int)) = some (rowD (r.take i)) := slc_rowT r i (by omega)
  have a0 : binO .Add (natD i) (.int 1) = some (.int ((i : Int) + 1)) := rfl
  have aI : ∀ z, asI (.int z) = some z := fun _ => rfl
  have aN : asI (natD i) = some (i : Int) := rfl
  have h1 : seqM (slcM (getM 1) noP (someP (getM 2))) [some (bookD ws, false), some (rowD r, false), some (natD i, false), e3, e4, e5, some (.int z, false), e7, e8] g = .ok ((r.take i).map natD) g := by
    have hs2 := seq_row (r.take i)
    generalize (r.take i).map natD = DS at *
    generalize rowD (r.take i) = R2 at *
    generalize rowD r = R1 at *
    simp [EG, a0, aI, aN, hs, hs2]
  rw [h1]
  simp only
  have hlT : (r.take i).length ≤ 100 := by rw [List.length_take]; omega
  rw [if_pos (fits _ (by rw [List.length_map]; omega)), compGo_map _ natD (fun x => decide (z < (wn ws x).2)) natD g (r.take i) fun x hx => ?_]
  · rfl
  have e := fun g => last_ok ws x (hr _ (List.mem_of_mem_take hx)) g
  have c : cmpO .Gt (.int (wn ws x).2) (.int z) = some (.bl (decide (z < (wn ws x).2))) := rfl
  have trb : ∀ b, tru (.bl b) = some b := fun _ => rfl
  rw [g_step1]
  simp [EG, wipeE, e, c, trb]
  split <;> rfl
theorem bc2 (i a b : Nat) (ts : List Nat) (hts : ts.length ≤ 100) (e0 e1 e2 e4 e6 e8 : Option (D × Bool)) (q : Bool) (g : G) :
    compM [8] (.one 8) (seqM (getM 7)) yesT (thenM (consM (fun _ => M.ret (.str "back")) (consM (getM 3) (consM (getM 5) (consM (getM 8) nilM)))) (sizeOk .tup))
      [e0, e1, e2, some (natD a, false), e4, some (natD b, false), e6, some (lrowD ts, q), e8] g = .ok (.lst ((ts.map (bW a b)).map wD)) g := by
  rw [g_compM]
  have h1 : seqM (getM 7) [e0, e1, e2, some (natD a, false), e4, some (natD b, false), e6, some (lrowD ts, q), e8] g = .ok (ts.map natD) g := by
    have hs2 : seqO (lrowD ts) = some (ts.map natD) := rfl
    generalize ts.map natD = DS at *
    generalize lrowD ts = R2 at *
    simp [EG, hs2]
  rw [h1]
  simp only
  rw [if_pos (fits _ (by rw [List.length_map]; omega)), compGo_all _ natD (fun c => wD (bW a b c)) g ts fun x hx => ?_]
  · rw [List.map_map]; rfl
  rw [g_step1]
  simp [EG, wipeE, sz4, bW_D]
theorem bb_ok (hr : ∀ k ∈ r, k < ws.length) (hn : r.length ≤ 100) (i : Nat) (hi : i < r.length) (a b : Nat) (ha : a < ws.length) (hb : b < ws.length) (acc : List Wd) (hacc : acc.length ≤ 500000) (y6 y8 : Option D) (x7 : Option (D × Bool)) (g : G) : ∃ z6 u7,
    evSs false ir_bb [some (bookD ws, false), some (rowD r, false), some (natD i, false), some (natD a, false), some (.lst (acc.map wD), true), some (natD b, false), fl y6, x7, fl y8] g =
      .ok (.nx [some (bookD ws, false), some (rowD r, false), some (natD i, false), some (natD a, false), some (.lst ((acc ++ bG ws (r.take i) a b).map wD), true), some (natD b, false), fl z6, u7, fl y8]) g := by
  have e1 := fun g => lies_within_ok ws b a hb ha g
  have e2 := fun g => middle_of_ok ws b hb g
  have e3 := fun g => last_ok ws a ha g
  have trb : ∀ b, tru (.bl b) = some b := fun _ => rfl
  unfold bG
  rw [List.map_append]
  by_cases h : wiB ws b a = true
  · have hb0 : binO .Sub (.int (midV ws b)) (.int (wn ws a).2) = some (.int (midV ws b - (wn ws a).2)) := rfl
    have c1 := bc1 ws r hr hn i hi (midV ws b - (wn ws a).2) (some (natD a, false)) none (some (natD b, false)) none (fl y8) g
    have hl : ((r.take i).filter fun c => decide (midV ws b - (wn ws a).2 < (wn ws c).2)).length ≤ 100 := Nat.le_trans (List.length_filter_le _ _) (by rw [List.length_take]; omega)
    have c2 := fun e4 q => bc2 i a b ((r.take i).filter fun c => decide (midV ws b - (wn ws a).2 < (wn ws c).2)) hl (some (bookD ws, false)) (some (rowD r, false)) (some (natD i, false)) e4 (some (.int (midV ws b - (wn ws a).2), false)) (fl y8) q g
    have hsz : acc.length + (((r.take i).filter fun c => decide (midV ws b - (wn ws a).2 < (wn ws c).2)).map (bW a b)).length ≤ sizeLine := size_le (by rw [List.length_map]; omega)
    rw [if_pos h]
    generalize ((r.take i).filter fun c => decide (midV ws b - (wn ws a).2 < (wn ws c).2)) = ts at *
    have k1 : kids (lrowD ts) = true := imms_row ts
    have iw : imm (.lst ((ts.map (bW a b)).map wD)) = false := rfl
    have hsz2 : (acc.map wD).length + ((ts.map (bW a b)).map wD).length ≤ sizeLine := by rw [List.length_map, List.length_map]; exact hsz
    generalize (ts.map (bW a b)).map wD = TW at *
    generalize acc.map wD = L at *
    have c2' := c2 none true
    have hz : frzE [4] [some (bookD ws, false), some (rowD r, false), some (natD i, false), some (natD a, false), some (.lst L, true), some (natD b, false), some (.int (midV ws b - (wn ws a).2), false), some (lrowD ts, true), fl y8] = [some (bookD ws, false), some (rowD r, false), some (natD i, false), some (natD a, false), some (.lst L, true), some (natD b, false), some (.int (midV ws b - (wn ws a).2), false), some (lrowD ts, false), fl y8] := by
      rw [frz_r]
      simp only [frzR, fz_fl]
      rfl
    refine ⟨some (.int (midV ws b - (wn ws a).2)), some (lrowD ts, false), ?_⟩
    generalize lrowD ts = TL at *
    have im : ∀ z, imm (.int z) = true := fun _ => rfl
    simp only [fl] at c1 c2' hz
    simp [ir_bb, EI, ES, EV, EV2, EG, wipeE, fl, after_imm, after_f, setTg, e1, e2, e3, trb, h, hb0, im, c1, c2', k1, iw, hz, e_ext, s_ext, ownL, hsz2]
  · have h' : wiB ws b a = false := by simpa using h
    refine ⟨y6, x7, ?_⟩
    rw [if_neg h]
    simp [ir_bb, EI, ES, EV, EG, wipeE, fl, e1, trb, h']
end
end K37
end
section
set_option maxHeartbeats 2000000
namespace K37
open PySem Dv Pg Pm L2
section
variable (ws : Ws) (r : List Nat)

def frontL (ws : Ws) (r : List Nat) (i : Nat) : List Wd := (r.take i).flatMap (fG ws (r.drop (i + 1)) (r.getD i 0))
theorem front_len (ws : Ws) (r : List Nat) (i a j : Nat) (hn : r.length ≤ 100) : (((r.take i).take j).flatMap (fG ws (r.drop (i + 1)) a)).length ≤ 10000 := by
  have h1 : (r.drop (i + 1)).length ≤ 100 := by rw [List.length_drop]; omega
  have h2 : ((r.take i).take j).length ≤ 100 := by
    rw [List.length_take]
    have : (r.take i).length ≤ 100 := by rw [List.length_take]; omega
    omega
  have h := flat_len (fG ws (r.drop (i + 1)) a) 100 ((r.take i).take j) fun x _ => Nat.le_trans (fG_len ws _ a x) h1
  have : ((r.take i).take j).length * 100 ≤ 100 * 100 := Nat.mul_le_mul_right _ h2
  omega
theorem front_throws_ok (hr : ∀ k ∈ r, k < ws.length) (hn : r.length ≤ 100) (i : Nat) (hi : i < r.length) (g : G) : s_front_throws [bookD ws, rowD r, natD i] g = .ok (.lst ((frontL ws r i).map wD)) g := by
  have ha := hr _ (List.getElem_mem hi)
  have hix : idxO (rowD r) (natD i) = some (natD r[i]) := by
    show L2.atI (r.map natD) (i : Int) = _
    rw [atI_nat _ _ (by omega) (by simpa using hi)]
    simp [hi]
  have hg0 := getD_r r i hi
  unfold frontL
  rw [hg0]
  generalize r[i] = a at *
  obtain ⟨env', g', e1, z5, z6, u7, he, hg⟩ := forGo_inv (t := .one 5) (b := evSs false ir_fb) (ds := (r.take i).map natD)
    (fun j env g2 => ∃ z5 z6 u7, env = [some (bookD ws, false), some (rowD r, false), some (natD i, false), some (natD a, false), some (.lst ((((r.take i).take j).flatMap (fG ws (r.drop (i + 1)) a)).map wD), true), fl z5, fl z6, u7, none] ∧ g2 = g)
    (env := [some (bookD ws, false), some (rowD r, false), some (natD i, false), some (natD a, false), some (.lst [], true), none, none, none, none]) (g := g) ⟨none, none, none, by simp [fl], rfl⟩
    fun j hj env g2 ⟨z5, z6, u7, he, hg⟩ => by
      subst he hg
      have hj' : j < (r.take i).length := by simpa using hj
      have hb : (r.take i)[j] < ws.length := hr _ (List.mem_of_mem_take (List.getElem_mem hj'))
      have hl := front_len ws r i a j hn
      obtain ⟨y6, v7, e⟩ := fb_ok ws r hr hn i hi a ((r.take i)[j]) ha hb (((r.take i).take j).flatMap (fG ws (r.drop (i + 1)) a)) (by omega) z6 none u7 g2
      refine ⟨_, by rw [List.getElem_map]; rfl, _, _, .inl e, some (natD ((r.take i)[j])), y6, v7, ?_, rfl⟩
      rw [List.take_succ_eq_append_getElem hj', List.flatMap_append]
      simp [fl]
  subst he hg
  rw [List.length_map, List.take_length] at e1
  have hs : slcO (rowD r) none (some (i : Int)) = some (rowD (r.take i)) := slc_rowT r i (by omega)
  have hs2 := seq_row (r.take i)
  have a0 : binO .Add (natD i) (.int 1) = some (.int ((i : Int) + 1)) := rfl
  have aI : ∀ z, asI (.int z) = some z := fun _ => rfl
  have aN : asI (natD i) = some (i : Int) := rfl
  have k0 : kids (.lst []) = true := rfl
  have im : ∀ k, imm (natD k) = true := fun _ => rfl
  unfold s_front_throws
  rw [ir_f_eq]
  generalize ((r.take i).flatMap (fG ws (r.drop (i + 1)) a)).map wD = L2 at *
  have iw : imm (.lst L2) = false := rfl
  have hz : ∀ b, after false [4, 7] b [some (bookD ws, false), some (rowD r, false), some (natD i, false), some (natD a, false), some (.lst [], true), none, none, none, none] = some [some (bookD ws, false), some (rowD r, false), some (natD i, false), some (natD a, false), some (.lst [], true), none, none, none, none] := by
    intro b
    cases b with
    | true => rfl
    | false =>
      show some (frzE _ _) = _
      rw [frz_r]; rfl
  generalize rowD (r.take i) = R2 at *
  generalize rowD r = R1 at *
  generalize (r.take i).map natD = DS at *
  generalize ir_fb = B at e1
  simp only [fl] at e1
  simp [runD, EI, ES, EV, EV2, EG, envOf, wipeE, endM, fl, after_imm, after_f, hz, setTg, hix, im, k0, sz0, isRng, a0, aI, aN, hs, hs2, e1, iw]

def backL (ws : Ws) (r : List Nat) (i : Nat) : List Wd := (r.drop (i + 1)).flatMap (bG ws (r.take i) (r.getD i 0))
theorem back_len (ws : Ws) (r : List Nat) (i a j : Nat) (hn : r.length ≤ 100) : (((r.drop (i + 1)).take j).flatMap (bG ws (r.take i) a)).length ≤ 10000 := by
  have h1 : (r.take i).length ≤ 100 := by rw [List.length_take]; omega
  have h2 : ((r.drop (i + 1)).take j).length ≤ 100 := by
    rw [List.length_take]
    have : (r.drop (i + 1)).length ≤ 100 := by rw [List.length_drop]; omega
    omega
  have h := flat_len (bG ws (r.take i) a) 100 ((r.drop (i + 1)).take j) fun x _ => Nat.le_trans (bG_len ws _ a x) h1
  have : ((r.drop (i + 1)).take j).length * 100 ≤ 100 * 100 := Nat.mul_le_mul_right _ h2
  omega
theorem back_throws_ok (hr : ∀ k ∈ r, k < ws.length) (hn : r.length ≤ 100) (i : Nat) (hi : i < r.length) (g : G) : s_back_throws [bookD ws, rowD r, natD i] g = .ok (.lst ((backL ws r i).map wD)) g := by
  have ha := hr _ (List.getElem_mem hi)
  have hix : idxO (rowD r) (natD i) = some (natD r[i]) := by
    show L2.atI (r.map natD) (i : Int) = _
    rw [atI_nat _ _ (by omega) (by simpa using hi)]
    simp [hi]
  have hg0 := getD_r r i hi
  unfold backL
  rw [hg0]
  generalize r[i] = a at *
  obtain ⟨env', g', e1, z5, z6, u7, he, hg⟩ := forGo_inv (t := .one 5) (b := evSs false ir_bb) (ds := (r.drop (i + 1)).map natD)
    (fun j env g2 => ∃ z5 z6 u7, env = [some (bookD ws, false), some (rowD r, false), some (natD i, false), some (natD a, false), some (.lst ((((r.drop (i + 1)).take j).flatMap (bG ws (r.take i) a)).map wD), true), fl z5, fl z6, u7, none] ∧ g2 = g)
    (env := [some (bookD ws, false), some (rowD r, false), some (natD i, false), some (natD a, false), some (.lst [], true), none, none, none, none]) (g := g) ⟨none, none, none, by simp [fl], rfl⟩
    fun j hj env g2 ⟨z5, z6, u7, he, hg⟩ => by
      subst he hg
      have hj' : j < (r.drop (i + 1)).length := by simpa using hj
      have hb : (r.drop (i + 1))[j] < ws.length := hr _ (List.mem_of_mem_drop (List.getElem_mem hj'))
      have hl := back_len ws r i a j hn
      obtain ⟨y6, v7, e⟩ := bb_ok ws r hr hn i hi a ((r.drop (i + 1))[j]) ha hb (((r.drop (i + 1)).take j).flatMap (bG ws (r.take i) a)) (by omega) z6 none u7 g2
      refine ⟨_, by rw [List.getElem_map]; rfl, _, _, .inl e, some (natD ((r.drop (i + 1))[j])), y6, v7, ?_, rfl⟩
      rw [List.take_succ_eq_append_getElem hj', List.flatMap_append]
      simp [fl]
  subst he hg
  rw [List.length_map, List.take_length] at e1
  have hs : slcO (rowD r) (some ((i : Int) + 1)) none = some (rowD (r.drop (i + 1))) := slc_row r (i + 1) (by omega)
  have hs2 := seq_row (r.drop (i + 1))
  have a0 : binO .Add (natD i) (.int 1) = some (.int ((i : Int) + 1)) := rfl
  have aI : ∀ z, asI (.int z) = some z := fun _ => rfl
  have aN : asI (natD i) = some (i : Int) := rfl
  have k0 : kids (.lst []) = true := rfl
  have im : ∀ k, imm (natD k) = true := fun _ => rfl
  unfold s_back_throws
  rw [ir_b_eq]
  generalize ((r.drop (i + 1)).flatMap (bG ws (r.take i) a)).map wD = L2 at *
  have iw : imm (.lst L2) = false := rfl
  have hz : ∀ b, after false [4, 7] b [some (bookD ws, false), some (rowD r, false), some (natD i, false), some (natD a, false), some (.lst [], true), none, none, none, none] = some [some (bookD ws, false), some (rowD r, false), some (natD i, false), some (natD a, false), some (.lst [], true), none, none, none, none] := by
    intro b
    cases b with
    | true => rfl
    | false =>
      show some (frzE _ _) = _
      rw [frz_r]; rfl
  generalize rowD (r.drop (i + 1)) = R2 at *
  generalize rowD r = R1 at *
  generalize (r.drop (i + 1)).map natD = DS at *
  generalize ir_bb = B at e1
  simp only [fl] at e1
  simp [runD, EI, ES, EV, EV2, EG, envOf, wipeE, endM, fl, after_imm, after_f, hz, setTg, hix, im, k0, sz0, isRng, a0, aI, aN, hs, hs2, e1, iw]
end
end K37
end
section
set_option maxHeartbeats 2000000
namespace K37
open PySem Dv Pg Pm L2
theorem imms_ints : ∀ ns : List Int, imms (ns.map D.int) = true
  | [] => rfl
  | n :: r => by
    show (imm (.int n) && imms (r.map D.int)) = true
    rw [imms_ints r]; rfl
theorem imms_w : ∀ l : List Wd, imms (l.map wD) = true
  | [] => rfl
  | p :: l => by
    have : imm (wD p) = true := by
      show (imm (.str p.1) && imms (p.2.map D.int)) = true
      rw [imms_ints]; rfl
    show (imm (wD p) && imms (l.map wD)) = true
    rw [this, imms_w l]; rfl
def ir_ab : SIs := (.cons (.ext [2] 2 (.call "front_throws" 3 s_front_throws (.cons (.var 0) (.cons (.var 1) (.cons (.var 3) .nil)))))
 (.cons (.ext [2] 2 (.call "back_throws" 3 s_back_throws (.cons (.var 0) (.cons (.var 1) (.cons (.var 3) .nil)))))
 .nil))
theorem ir_a_eq : ir_all_throws = (.cons (.own [2] 2 (.callN "middle_throws" 2 sN_middle_throws (.cons (.var 0) (.cons (.var 1) .nil))))
 (.cons (.for [2] (.one 3) (.rng1 (.bi .len (.cons (.var 1) .nil))) ir_ab)
 (.cons (.ret [] (.bi .sorted (.cons (.var 2) .nil)))
 .nil))) := rfl
theorem irN_a_eq : irN_all_throws = (.cons (.own [2] 2 (.callN "middle_throws" 2 sN_middle_throws (.cons (.var 0) (.cons (.var 1) .nil))))
 (.cons (.for [2] (.one 3) (.rng1 (.bi .len (.cons (.var 1) .nil))) ir_ab)
 (.cons (.ret [] (.bi .sorted (.cons (.var 2) .nil)))
 .nil))) := rfl
def stepL (ws : Ws) (r : List Nat) (i : Nat) : List Wd := frontL ws r i ++ backL ws r i
def allL (ws : Ws) (r : List Nat) : List Wd := midL ws r ++ (List.range r.length).flatMap (stepL ws r)
theorem len_row (r : List Nat) : lenF (rowD r) = some (.int (r.length : Nat)) := by unfold rowD lenF; simp
theorem front_le (ws : Ws) (r : List Nat) (i : Nat) (hn : r.length ≤ 100) : (frontL ws r i).length ≤ 10000 := by
  have h := front_len ws r i (r.getD i 0) (r.take i).length hn
  rw [List.take_length] at h
  exact h
theorem back_le (ws : Ws) (r : List Nat) (i : Nat) (hn : r.length ≤ 100) : (backL ws r i).length ≤ 10000 := by
  have h := back_len ws r i (r.getD i 0) (r.drop (i + 1)).length hn
  rw [List.take_length] at h
  exact h
theorem step_le (ws : Ws) (r : List Nat) (n : Nat) (hn : r.length ≤ 100) (h : n ≤ 100) : ((List.range n).flatMap (stepL ws r)).length ≤ 2000000 := by
  have h1 := flat_len (stepL ws r) 20000 (List.range n) fun i _ => by
    have h2 := front_le ws r i hn
    have h3 := back_le ws r i hn
    unfold stepL
    rw [List.length_append]; omega
  rw [List.length_range] at h1
  have : n * 20000 ≤ 100 * 20000 := Nat.mul_le_mul_right _ h
  omega
theorem midL_le (ws : Ws) (r : List Nat) (hn : r.length ≤ 100) : (midL ws r).length ≤ 10000 := mid_len ws r r.length hn hn
theorem size_le2 {n : Nat} (h : n ≤ 16000000) : n ≤ sizeLine := by rw [sizeLine_eq]; omega
section
variable (ws : Ws) (r : List Nat)
theorem ab_ok (hr : ∀ k ∈ r, k < ws.length) (hn : r.length ≤ 100) (i : Nat) (hi' : i < r.length) (g : G) :
    evSs false ir_ab [some (bookD ws, false), some (rowD r, false), some (.lst ((midL ws r ++ (List.range i).flatMap (stepL ws r)).map wD), true), some (natD i, false)] g =
      .ok (.nx [some (bookD ws, false), some (rowD r, false), some (.lst ((midL ws r ++ ((List.range i).flatMap (stepL ws r) ++ stepL ws r i)).map wD), true), some (natD i, false)]) g := by
  have e1 := fun g => front_throws_ok ws r hr hn i hi' g
  have e2 := fun g => back_throws_ok ws r hr hn i hi' g
  have hl := step_le ws r i hn (by omega)
  have hm := midL_le ws r hn
  have h1 := front_le ws r i hn
  have h2 := back_le ws r i hn
  have s1 : ((midL ws r ++ (List.range i).flatMap (stepL ws r)).map wD).length + ((frontL ws r i).map wD).length ≤ sizeLine := size_le2 (by rw [List.length_map, List.length_map, List.length_append]; omega)
  have s2 : ((midL ws r ++ (List.range i).flatMap (stepL ws r)).map wD ++ (frontL ws r i).map wD).length + ((backL ws r i).map wD).length ≤ sizeLine := size_le2 (by rw [List.length_append, List.length_map, List.length_map, List.length_map, List.length_append]; omega)
  have hA : (midL ws r ++ ((List.range i).flatMap (stepL ws r) ++ stepL ws r i)).map wD = (midL ws r ++ (List.range i).flatMap (stepL ws r)).map wD ++ (frontL ws r i).map wD ++ (backL ws r i).map wD := by
    unfold stepL
    simp only [List.map_append, List.append_assoc]
  rw [hA]
  generalize (midL ws r ++ (List.range i).flatMap (stepL ws r)).map wD = L at *
  generalize (frontL ws r i).map wD = LF at *
  generalize (backL ws r i).map wD = LB at *
  have i1 : imm (.lst LF) = false := rfl
  have i2 : imm (.lst LB) = false := rfl
  have hz : ∀ L, frzE [2] [some (bookD ws, false), some (rowD r, false), some (.lst L, true), some (natD i, false)] = [some (bookD ws, false), some (rowD r, false), some (.lst L, true), some (natD i, false)] := fun L => by rw [frz_r]; rfl
  rw [List.length_append] at s2
  simp [ir_ab, EI, ES, EV, EG, wipeE, after_f, e_ext, s_ext, ownL, e1, e2, i1, i2, hz, s1, s2]
theorem all_loop (hr : ∀ k ∈ r, k < ws.length) (hn : r.length ≤ 100) (g : G) : ∃ z3,
    forGo (.one 3) (evSs false ir_ab) ((List.range r.length).map fun i => D.int (i : Nat)) [some (bookD ws, false), some (rowD r, false), some (.lst ((midL ws r).map wD), true), none] g =
      .ok (.nx [some (bookD ws, false), some (rowD r, false), some (.lst ((allL ws r).map wD), true), fl z3]) g := by
  obtain ⟨env', g', e1, z3, he, hg⟩ := forGo_inv (t := .one 3) (b := evSs false ir_ab) (ds := (List.range r.length).map fun i => D.int (i : Nat))
    (fun i env g2 => ∃ z3, env = [some (bookD ws, false), some (rowD r, false), some (.lst ((midL ws r ++ (List.range i).flatMap (stepL ws r)).map wD), true), fl z3] ∧ g2 = g)
    (env := [some (bookD ws, false), some (rowD r, false), some (.lst ((midL ws r).map wD), true), none]) (g := g) ⟨none, by simp [fl], rfl⟩
    fun i hi env g2 ⟨z3, he, hg⟩ => by
      subst he hg
      have hi' : i < r.length := by simpa using hi
      have e := ab_ok ws r hr hn i hi' g2
      refine ⟨[some (bookD ws, false), some (rowD r, false), some (.lst ((midL ws r ++ (List.range i).flatMap (stepL ws r)).map wD), true), some (natD i, false)], by simp [setTg, natD], _, _, .inl e, some (natD i), ?_, rfl⟩
      rw [range_succ_flat]; rfl
  subst he hg
  rw [List.length_map, List.length_range] at e1
  exact ⟨z3, e1⟩
theorem all_throws_ok (hr : ∀ k ∈ r, k < ws.length) (hn : r.length ≤ 100) (g : G) : s_all_throws [bookD ws, rowD r] g = .ok (.lst ((sortW (allL ws r)).map wD)) g := by
  obtain ⟨z3, h⟩ := all_loop ws r hr hn g
  have e1 := fun g => middle_throws_ok ws r hr hn g
  have k1 : kids (.lst ((midL ws r).map wD)) = true := imms_w _
  have c := rng1_nat r.length (by omega)
  have hl := len_row r
  have hs := sortF_w (allL ws r)
  unfold s_all_throws
  rw [ir_a_eq]
  generalize (List.range r.length).map (fun i => D.int (i : Nat)) = DS at *
  generalize (midL ws r).map wD = LM at *
  generalize (allL ws r).map wD = LA at *
  generalize (sortW (allL ws r)).map wD = LS at *
  generalize ir_ab = B at h
  have i1 : imm (.lst LS) = false := rfl
  simp only [fl] at h
  simp [runD, EI, ES, EV, EV2, EG, ERF, envOf, wipeE, endM, fl, after_imm, after_f, k1, isRng, biO, one1, hl, c, e1, h, hs, i1]
theorem all_throwsN_ok (hr : ∀ k ∈ r, k < ws.length) (hn : r.length ≤ 100) (g : G) : sN_all_throws [bookD ws, rowD r] g = .ok (.lst ((sortW (allL ws r)).map wD)) g := by
  obtain ⟨z3, h⟩ := all_loop ws r hr hn g
  have e1 := fun g => middle_throws_ok ws r hr hn g
  have k1 : kids (.lst ((midL ws r).map wD)) = true := imms_w _
  have k2 : kids (.lst ((sortW (allL ws r)).map wD)) = true := imms_w _
  have c := rng1_nat r.length (by omega)
  have hl := len_row r
  have hs := sortF_w (allL ws r)
  unfold sN_all_throws
  rw [irN_a_eq]
  generalize (List.range r.length).map (fun i => D.int (i : Nat)) = DS at *
  generalize (midL ws r).map wD = LM at *
  generalize (allL ws r).map wD = LA at *
  generalize (sortW (allL ws r)).map wD = LS at *
  generalize ir_ab = B at h
  simp only [fl] at h
  simp [Dv.runN, EI, ES, EV, EV2, EG, ERF, envOf, wipeE, fl, after_imm, k1, k2, isRng, biO, one1, hl, c, e1, h, hs]
end
end K37
end
section
set_option maxHeartbeats 2000000
namespace K37
open PySem Dv Pg Pm L2
theorem ltN (j i : Nat) : cmpO .Lt (natD j) (natD i) = some (.bl (decide (j < i))) := by
  show some (D.bl (decide ((j : Int) < (i : Int)))) = _
  congr 2
  exact decide_eq_decide.mpr (by omega)
theorem neN (j i : Nat) : cmpO .NotEq (natD j) (natD i) = some (.bl (decide (j ≠ i))) := by
  show ((eqD (.int (j : Nat)) (.int (i : Nat))).map (!·)).map D.bl = _
  rw [eqD_int]
  simp only [Option.map_some]
  congr 2
  by_cases h : j = i
  · subst h; simp
  · have : ((j : Int) == (i : Int)) = false := by rw [beq_eq_false_iff_ne]; omega
    rw [this]; simp [h]
section
variable (ws : Ws) (r : List Nat)

theorem lfc (hr : ∀ k ∈ r, k < ws.length) (hn : r.length ≤ 100) (i j : Nat) (hi : i < r.length) (a b : Nat) (z : Int) (e2 e8 e9 : Option (D × Bool)) (g : G) :
    compM [9] (.one 9) (seqM (slcM (getM 1) (someP (bind2 (binO .Add) (getM 3) fun _ => M.ret (.int 1))) noP)) (andT (truM (bind2 (cmpO .Lt) (getM 5) (getM 3))) (truM (bind2 (cmpO .Lt) (bind2 idxO (bind2 idxO (getM 0) (getM 9)) fun _ => M.ret (.int 0)) (getM 7)))) (thenM (consM (fun _ => M.ret (.str "front")) (consM (getM 4) (consM (getM 6) (consM (getM 9) nilM)))) (sizeOk .tup))
      [some (winsD ws, false), some (rowD r, false), e2, some (natD i, false), some (natD a, false), some (natD j, false), some (natD b, false), some (.int z, false), e8, e9] g = .ok (.lst ((((r.drop (i + 1)).filter fun x => decide (j < i) && decide ((wn ws x).1 < z)).map (fW a b)).map wD)) g := by
  rw [g_compM]
  have hs : slcO (rowD r) (some ((i : Int) + 1)) none = some (rowD (r.drop (i + 1))) := slc_row r (i + 1) (by omega)
  have a0 : binO .Add (natD i) (.int 1) = some (.int ((i : Int) + 1)) := rfl
  have aI : ∀ z, asI (.int z) = some z := fun _ => rfl
  have aN : asI (natD i) = some (i : Int) := rfl
  have h1 : seqM (slcM (getM 1) (someP (bind2 (binO .Add) (getM 3) fun _ => M.ret (.int 1))) noP) [some (winsD ws, false), some (rowD r, false), e2, some (natD i, false), some (natD a, false), some (natD j, false), some (natD b, false), some (.int z, false), e8, e9] g = .ok ((r.drop (i + 1)).map natD) g := by
    have hs2 := seq_row (r.drop (i + 1))
    generalize (r.drop (i + 1)).map natD = DS at *
    generalize rowD (r.drop (i + 1)) = R2 at *
    generalize rowD r = R1 at *
    simp [EG, a0, aI, aN, hs, hs2]
  rw [h1]
  simp only
  have hlT : (r.drop (i + 1)).length ≤ 100 := by rw [List.length_drop]; omega
  rw [if_pos (fits _ (by rw [List.length_map]; omega)), compGo_map _ natD (fun x => decide (j < i) && decide ((wn ws x).1 < z)) (fun x => wD (fW a b x)) g (r.drop (i + 1)) fun x hx => ?_]
  · rw [List.map_map]; rfl
  have hx' := hr _ (List.mem_of_mem_drop hx)
  have e1 := idx_winsN ws x hx'
  have e3 : idxO (winD (wn ws x)) (.int 0) = some (.int (wn ws x).1) := at20 _ _
  have c : cmpO .Lt (.int (wn ws x).1) (.int z) = some (.bl (decide ((wn ws x).1 < z))) := rfl
  have c0 := ltN j i
  have trb : ∀ b, tru (.bl b) = some b := fun _ => rfl
  rw [g_step1]
  simp only [fW_D]
  by_cases hc : j < i
  · simp [EG, wipeE, e1, e3, c, c0, hc, trb, sz4]
    split <;> rfl
  · simp [EG, wipeE, c0, hc, trb]

theorem lbc (hr : ∀ k ∈ r, k < ws.length) (hn : r.length ≤ 100) (i j : Nat) (hi : i < r.length) (a b : Nat) (z : Int) (e2 e7 e9 : Option (D × Bool)) (g : G) :
    compM [9] (.one 9) (seqM (slcM (getM 1) noP (someP (getM 3)))) (andT (truM (bind2 (cmpO .Lt) (getM 3) (getM 5))) (truM (bind2 (cmpO .Gt) (bind2 idxO (bind2 idxO (getM 0) (getM 9)) fun _ => M.ret (.int 1)) (getM 8)))) (thenM (consM (fun _ => M.ret (.str "back")) (consM (getM 4) (consM (getM 6) (consM (getM 9) nilM)))) (sizeOk .tup))
      [some (winsD ws, false), some (rowD r, false), e2, some (natD i, false), some (natD a, false), some (natD j, false), some (natD b, false), e7, some (.int z, false), e9] g = .ok (.lst ((((r.take i).filter fun x => decide (i < j) && decide (z < (wn ws x).2)).map (bW a b)).map wD)) g := by
  rw [g_compM]
  have hs : slcO (rowD r) none (some (i : Int)) = some (rowD (r.take i)) := slc_rowT r i (by omega)
  have a0 : binO .Add (natD i) (.int 1) = some (.int ((i : Int) + 1)) := rfl
  have aI : ∀ z, asI (.int z) = some z := fun _ => rfl
  have aN : asI (natD i) = some (i : Int) := rfl
  have h1 : seqM (slcM (getM 1) noP (someP (getM 3))) [some (winsD ws, false), some (rowD r, false), e2, some (natD i, false), some (natD a, false), some (natD j, false), some (natD b, false), e7, some (.int z, false), e9] g = .ok ((r.take i).map natD) g := by
    have hs2 := seq_row (r.take i)
    generalize (r.take i).map natD = DS at *
    generalize rowD (r.take i) = R2 at *
    generalize rowD r = R1 at *
    simp [EG, a0, aI, aN, hs, hs2]
  rw [h1]
  simp only
  have hlT : (r.take i).length ≤ 100 := by rw [List.length_take]; omega
  rw [if_pos (fits _ (by rw [List.length_map]; omega)), compGo_map _ natD (fun x => decide (i < j) && decide (z < (wn ws x).2)) (fun x => wD (bW a b x)) g (r.take i) fun x hx => ?_]
  · rw [List.map_map]; rfl
  have hx' := hr _ (List.mem_of_mem_take hx)
  have e1 := idx_winsN ws x hx'
  have e3 : idxO (winD (wn ws x)) (.int 1) = some (.int (wn ws x).2) := at21 _ _
  have c : cmpO .Gt (.int (wn ws x).2) (.int z) = some (.bl (decide (z < (wn ws x).2))) := rfl
  have c0 := ltN i j
  have trb : ∀ b, tru (.bl b) = some b := fun _ => rfl
  rw [g_step1]
  simp only [bW_D]
  by_cases hc : i < j
  · simp [EG, wipeE, e1, e3, c, c0, hc, trb, sz4]
    split <;> rfl
  · simp [EG, wipeE, c0, hc, trb]
def ir_lj : SIs := (.cons (.set [2] (.one 6) (.idx (.var 1) (.var 5)))
 (.cons (.ifs (.and (.cmp .Lt (.var 3) (.var 5)) (.last (.cmp .Gt (.call "_law_middle" 2 s__law_middle (.cons (.var 0) (.cons (.var 4) .nil))) (.call "_law_middle" 2 s__law_middle (.cons (.var 0) (.cons (.var 6) .nil))))))
 (.cons (.app [2] 2 (.tup (.cons (.cst (.str "middle")) (.cons (.var 4) (.cons (.var 6) .nil)))))
 .nil)
 .nil)
 (.cons (.ifs (.and (.cmp .NotEq (.var 3) (.var 5)) (.last (.call "_law_within" 3 s__law_within (.cons (.var 0) (.cons (.var 6) (.cons (.var 4) .nil))))))
 (.cons (.set [2] (.one 7) (.bin .Sub (.call "_law_middle" 2 s__law_middle (.cons (.var 0) (.cons (.var 6) .nil))) (.idx (.idx (.var 0) (.var 4)) (.cst (.int 0)))))
 (.cons (.set [2] (.one 8) (.bin .Sub (.call "_law_middle" 2 s__law_middle (.cons (.var 0) (.cons (.var 6) .nil))) (.idx (.idx (.var 0) (.var 4)) (.cst (.int 1)))))
 (.cons (.ext [2] 2 (.comp [("_law_c", 9)] (.one 9) (.seq (.slc (.var 1) (.bin .Add (.var 3) (.cst (.int 1))) .nop)) (.and (.cmp .Lt (.var 5) (.var 3)) (.last (.cmp .Lt (.idx (.idx (.var 0) (.var 9)) (.cst (.int 0))) (.var 7)))) (.tup (.cons (.cst (.str "front")) (.cons (.var 4) (.cons (.var 6) (.cons (.var 9) .nil)))))))
 (.cons (.ext [2] 2 (.comp [("_law_c", 9)] (.one 9) (.seq (.slc (.var 1) .nop (.var 3))) (.and (.cmp .Lt (.var 3) (.var 5)) (.last (.cmp .Gt (.idx (.idx (.var 0) (.var 9)) (.cst (.int 1))) (.var 8)))) (.tup (.cons (.cst (.str "back")) (.cons (.var 4) (.cons (.var 6) (.cons (.var 9) .nil)))))))
 .nil))))
 .nil)
 .nil)))
def ir_li : SIs := (.cons (.set [2] (.one 4) (.idx (.var 1) (.var 3)))
 (.cons (.for [2] (.one 5) (.rng1 (.bi .len (.cons (.var 1) .nil))) ir_lj)
 .nil))
theorem ir_lt_eq : ir__law_throws = (.cons (.own [2] 2 (.lst .nil))
 (.cons (.for [2] (.one 3) (.rng1 (.bi .len (.cons (.var 1) .nil))) ir_li)
 (.cons (.ret [] (.bi .sorted (.cons (.var 2) .nil)))
 .nil))) := rfl
def mJ (ws : Ws) (r : List Nat) (i j : Nat) : List Wd := if i < j then mG ws (r.getD i 0) (r.getD j 0) else []
def fJ (ws : Ws) (r : List Nat) (i j : Nat) : List Wd := if j < i then fG ws (r.drop (i + 1)) (r.getD i 0) (r.getD j 0) else []
def bJ (ws : Ws) (r : List Nat) (i j : Nat) : List Wd := if i < j then bG ws (r.take i) (r.getD i 0) (r.getD j 0) else []
def lJ (ws : Ws) (r : List Nat) (i j : Nat) : List Wd := mJ ws r i j ++ (fJ ws r i j ++ bJ ws r i j)
theorem filt_and {α β : Type} (c : Bool) (p : α → Bool) (f : α → β) (l : List α) : (l.filter fun x => c && p x).map f = if c = true then (l.filter p).map f else [] := by
  cases c <;> simp
theorem idx_rowN (i : Nat) (hi : i < r.length) : idxO (rowD r) (natD i) = some (natD (r.getD i 0)) := by
  rw [getD_r r i hi]
  show L2.atI (r.map natD) (i : Int) = _
  rw [atI_nat _ _ (by omega) (by simpa using hi)]
  simp [hi]
theorem getD_lt (hr : ∀ k ∈ r, k < ws.length) (i : Nat) (hi : i < r.length) : r.getD i 0 < ws.length := by
  rw [getD_r r i hi]; exact hr _ (List.getElem_mem hi)
theorem lj_ok (hr : ∀ k ∈ r, k < ws.length) (hn : r.length ≤ 100) (i j : Nat) (hi : i < r.length) (hj : j < r.length) (acc : List Wd) (hacc : acc.length ≤ 10000000) (y6 y7 y8 y9 : Option D) (g : G) : ∃ z6 z7 z8,
    evSs false ir_lj [some (winsD ws, false), some (rowD r, false), some (.lst (acc.map wD), true), some (natD i, false), some (natD (r.getD i 0), false), some (natD j, false), fl y6, fl y7, fl y8, fl y9] g =
      .ok (.nx [some (winsD ws, false), some (rowD r, false), some (.lst ((acc ++ lJ ws r i j).map wD), true), some (natD i, false), some (natD (r.getD i 0), false), some (natD j, false), fl z6, fl z7, fl z8, fl y9]) g := by
  have hix := idx_rowN r j hj
  have ha := getD_lt ws r hr i hi
  have hb := getD_lt ws r hr j hj
  unfold lJ mJ fJ bJ mG fG bG
  generalize r.getD i 0 = a at *
  generalize r.getD j 0 = b at *
  have e1 := fun g => law_middle_ok ws a ha g
  have e2 := fun g => law_middle_ok ws b hb g
  have e3 := fun g => law_within_ok ws b a hb ha g
  have w0 := idx_winsN ws a ha
  have w1 : idxO (winD (wn ws a)) (.int 0) = some (.int (wn ws a).1) := at20 _ _
  have w2 : idxO (winD (wn ws a)) (.int 1) = some (.int (wn ws a).2) := at21 _ _
  have im : ∀ k, imm (natD k) = true := fun _ => rfl
  have imi : ∀ k, imm (.int k) = true := fun _ => rfl
  have trb : ∀ b, tru (.bl b) = some b := fun _ => rfl
  have c : cmpO .Gt (.int (midV ws a)) (.int (midV ws b)) = some (.bl (decide (midV ws b < midV ws a))) := rfl
  have c0 := ltN i j
  have c1 := neN i j
  have imt : imm (.tup [.str "middle", natD a, natD b]) = true := rfl
  have hm := mW_D a b
  -- the first part
  have first : ∀ (y7 y8 y9 : Option D) (rest : SIs), evSs false (.cons (.set [2] (.one 6) (.idx (.var 1) (.var 5)))
      (.cons (.ifs (.and (.cmp .Lt (.var 3) (.var 5)) (.last (.cmp .Gt (.call "_law_middle" 2 s__law_middle (.cons (.var 0) (.cons (.var 4) .nil))) (.call "_law_middle" 2 s__law_middle (.cons (.var 0) (.cons (.var 6) .nil))))))
      (.cons (.app [2] 2 (.tup (.cons (.cst (.str "middle")) (.cons (.var 4) (.cons (.var 6) .nil)))))
      .nil)
      .nil) rest)) [some (winsD ws, false), some (rowD r, false), some (.lst (acc.map wD), true), some (natD i, false), some (natD a, false), some (natD j, false), fl y6, fl y7, fl y8, fl y9] g =
      evSs false rest [some (winsD ws, false), some (rowD r, false), some (.lst ((acc ++ (if i < j then (if midV ws b < midV ws a then [mW a b] else []) else [])).map wD), true), some (natD i, false), some (natD a, false), some (natD j, false), some (natD b, false), fl y7, fl y8, fl y9] g := by
    intro y7 y8 y9 rest
    have hs : (acc.map wD).length < sizeLine := by rw [List.length_map, sizeLine_eq]; omega
    rw [List.map_append]
    generalize acc.map wD = L at *
    generalize hR : evSs false rest = RR
    by_cases h : i < j
    · by_cases h2 : midV ws b < midV ws a
      · simp [EI, ES, EV, EG, wipeE, fl, after_imm, setTg, hix, im, e1, e2, c, c0, trb, h, h2, s_app, ownL, sz3, imt, hs, hm, hR]
      · simp [EI, ES, EV, EG, wipeE, fl, after_imm, setTg, hix, im, e1, e2, c, c0, trb, h, h2, hR]
    · simp [EI, ES, EV, EG, wipeE, fl, after_imm, setTg, hix, im, c0, trb, h, hR]
  unfold ir_lj
  rw [first]
  have hml : (if i < j then (if midV ws b < midV ws a then [mW a b] else []) else []).length ≤ 1 := by split <;> (try split) <;> simp
  rw [← List.append_assoc]
  have hacc2 : (acc ++ (if i < j then (if midV ws b < midV ws a then [mW a b] else []) else [])).length ≤ 10000001 := by rw [List.length_append]; omega
  generalize acc ++ (if i < j then (if midV ws b < midV ws a then [mW a b] else []) else []) = acc2 at *
  clear first
  by_cases hne : i = j
  · subst hne
    refine ⟨some (natD b), y7, y8, ?_⟩
    simp [EI, ES, EV, EG, wipeE, fl, c1, trb]
  · by_cases hw : wiB ws b a = true
    · have s1 : binO .Sub (.int (midV ws b)) (.int (wn ws a).1) = some (.int (midV ws b - (wn ws a).1)) := rfl
      have s2 : binO .Sub (.int (midV ws b)) (.int (wn ws a).2) = some (.int (midV ws b - (wn ws a).2)) := rfl
      have k1 := lfc ws r hr hn i j hi a b (midV ws b - (wn ws a).1) none (some (.int (midV ws b - (wn ws a).2), false)) (fl y9) g
      have k2 := lbc ws r hr hn i j hi a b (midV ws b - (wn ws a).2) none (some (.int (midV ws b - (wn ws a).1), false)) (fl y9) g
      rw [filt_and] at k1 k2
      simp only [decide_eq_true_eq] at k1 k2
      refine ⟨some (natD b), some (.int (midV ws b - (wn ws a).1)), some (.int (midV ws b - (wn ws a).2)), ?_⟩
      rw [if_pos hw, if_pos hw]
      have l1 : (if j < i then ((r.drop (i + 1)).filter fun c => decide ((wn ws c).1 < midV ws b - (wn ws a).1)).map (fW a b) else []).length ≤ 100 := by
        split
        · rw [List.length_map]
          exact Nat.le_trans (List.length_filter_le _ _) (by rw [List.length_drop]; omega)
        · simp
      have l2 : (if i < j then ((r.take i).filter fun c => decide (midV ws b - (wn ws a).2 < (wn ws c).2)).map (bW a b) else []).length ≤ 100 := by
        split
        · rw [List.length_map]
          exact Nat.le_trans (List.length_filter_le _ _) (by rw [List.length_take]; omega)
        · simp
      generalize (if j < i then ((r.drop (i + 1)).filter fun c => decide ((wn ws c).1 < midV ws b - (wn ws a).1)).map (fW a b) else []) = F1 at *
      generalize (if i < j then ((r.take i).filter fun c => decide (midV ws b - (wn ws a).2 < (wn ws c).2)).map (bW a b) else []) = F2 at *
      have h1 : (acc2.map wD).length + (F1.map wD).length ≤ sizeLine := size_le2 (by rw [List.length_map, List.length_map]; omega)
      have h2 : (acc2.map wD).length + (F1.map wD).length + (F2.map wD).length ≤ sizeLine := size_le2 (by rw [List.length_map, List.length_map, List.length_map]; omega)
      simp only [List.map_append]
      generalize acc2.map wD = L at *
      generalize F1.map wD = L1 at *
      generalize F2.map wD = L2 at *
      have i1 : ∀ L, imm (.lst L) = false := fun _ => rfl
      have hz : ∀ L, frzE [2] [some (winsD ws, false), some (rowD r, false), some (.lst L, true), some (natD i, false), some (natD a, false), some (natD j, false), some (natD b, false), some (.int (midV ws b - (wn ws a).1), false), some (.int (midV ws b - (wn ws a).2), false), fl y9] = [some (winsD ws, false), some (rowD r, false), some (.lst L, true), some (natD i, false), some (natD a, false), some (natD j, false), some (natD b, false), some (.int (midV ws b - (wn ws a).1), false), some (.int (midV ws b - (wn ws a).2), false), fl y9] := by
        intro L
        rw [frz_r]
        simp only [frzR, fz_fl]
        rfl
      simp only [fl] at hz k1 k2
      simp [EI, ES, EV, EV2, EG, wipeE, fl, after_imm, after_f, setTg, e2, e3, w0, w1, w2, s1, s2, imi, c1, hne, hw, trb, k1, k2, e_ext, s_ext, ownL, i1, hz, h1, h2]
    · have hw' : wiB ws b a = false := by simpa using hw
      refine ⟨some (natD b), y7, y8, ?_⟩
      simp [EI, ES, EV, EG, wipeE, fl, c1, hne, e3, trb, hw']
end
end K37
end
section
set_option maxHeartbeats 2000000
namespace K37
open PySem Dv Pg Pm L2
theorem lJ_len (ws : Ws) (r : List Nat) (i j : Nat) (hn : r.length ≤ 100) : (lJ ws r i j).length ≤ 201 := by
  unfold lJ mJ fJ bJ
  rw [List.length_append, List.length_append]
  have h1 : (if i < j then mG ws (r.getD i 0) (r.getD j 0) else []).length ≤ 1 := by
    split
    · exact mG_len ws _ _
    · simp
  have h2 : (if j < i then fG ws (r.drop (i + 1)) (r.getD i 0) (r.getD j 0) else []).length ≤ 100 := by
    split
    · exact Nat.le_trans (fG_len ws _ _ _) (by rw [List.length_drop]; omega)
    · simp
  have h3 : (if i < j then bG ws (r.take i) (r.getD i 0) (r.getD j 0) else []).length ≤ 100 := by
    split
    · exact Nat.le_trans (bG_len ws _ _ _) (by rw [List.length_take]; omega)
    · simp
  omega
def lI (ws : Ws) (r : List Nat) (i : Nat) : List Wd := (List.range r.length).flatMap (lJ ws r i)
def lawL (ws : Ws) (r : List Nat) : List Wd := (List.range r.length).flatMap (lI ws r)
theorem lI_part (ws : Ws) (r : List Nat) (i n : Nat) (hn : r.length ≤ 100) (h : n ≤ 100) : ((List.range n).flatMap (lJ ws r i)).length ≤ 20100 := by
  have h1 := flat_len (lJ ws r i) 201 (List.range n) fun j _ => lJ_len ws r i j hn
  rw [List.length_range] at h1
  have : n * 201 ≤ 100 * 201 := Nat.mul_le_mul_right _ h
  omega
theorem law_part (ws : Ws) (r : List Nat) (n : Nat) (hn : r.length ≤ 100) (h : n ≤ 100) : ((List.range n).flatMap (lI ws r)).length ≤ 2010000 := by
  have h1 := flat_len (lI ws r) 20100 (List.range n) fun j _ => lI_part ws r j r.length hn hn
  rw [List.length_range] at h1
  have : n * 20100 ≤ 100 * 20100 := Nat.mul_le_mul_right _ h
  omega
section
variable (ws : Ws) (r : List Nat)
theorem li_ok (hr : ∀ k ∈ r, k < ws.length) (hn : r.length ≤ 100) (i : Nat) (hi : i < r.length) (acc : List Wd) (hacc : acc.length ≤ 3000000) (y4 y5 y6 y7 y8 y9 : Option D) (g : G) : ∃ z4 z5 z6 z7 z8,
    evSs false ir_li [some (winsD ws, false), some (rowD r, false), some (.lst (acc.map wD), true), some (natD i, false), fl y4, fl y5, fl y6, fl y7, fl y8, fl y9] g =
      .ok (.nx [some (winsD ws, false), some (rowD r, false), some (.lst ((acc ++ lI ws r i).map wD), true), some (natD i, false), fl z4, fl z5, fl z6, fl z7, fl z8, fl y9]) g := by
  have hix := idx_rowN r i hi
  obtain ⟨env', g', e1, z5, z6, z7, z8, he, hg⟩ := forGo_inv (t := .one 5) (b := evSs false ir_lj) (ds := (List.range r.length).map fun i => D.int (i : Nat))
    (fun j env g2 => ∃ z5 z6 z7 z8, env = [some (winsD ws, false), some (rowD r, false), some (.lst ((acc ++ (List.range j).flatMap (lJ ws r i)).map wD), true), some (natD i, false), some (natD (r.getD i 0), false), fl z5, fl z6, fl z7, fl z8, fl y9] ∧ g2 = g)
    (env := [some (winsD ws, false), some (rowD r, false), some (.lst (acc.map wD), true), some (natD i, false), some (natD (r.getD i 0), false), fl y5, fl y6, fl y7, fl y8, fl y9]) (g := g) ⟨y5, y6, y7, y8, by simp, rfl⟩
    fun j hj env g2 ⟨z5, z6, z7, z8, he, hg⟩ => by
      subst he hg
      have hj' : j < r.length := by simpa using hj
      have hl := lI_part ws r i j hn (by omega)
      obtain ⟨u6, u7, u8, e⟩ := lj_ok ws r hr hn i j hi hj' (acc ++ (List.range j).flatMap (lJ ws r i)) (by rw [List.length_append]; omega) z6 z7 z8 y9 g2
      refine ⟨[some (winsD ws, false), some (rowD r, false), some (.lst ((acc ++ (List.range j).flatMap (lJ ws r i)).map wD), true), some (natD i, false), some (natD (r.getD i 0), false), some (natD j, false), fl z6, fl z7, fl z8, fl y9], by simp [setTg, natD], _, _, .inl e, some (natD j), u6, u7, u8, ?_, rfl⟩
      rw [range_succ_flat, List.append_assoc]
      rfl
  subst he hg
  rw [List.length_map, List.length_range] at e1
  refine ⟨some (natD (r.getD i 0)), z5, z6, z7, z8, ?_⟩
  have c := rng1_nat r.length (by omega)
  have hl := len_row r
  have im : ∀ k, imm (natD k) = true := fun _ => rfl
  unfold lI
  generalize (acc ++ (List.range r.length).flatMap (lJ ws r i)).map wD = L2 at *
  generalize (List.range r.length).map (fun i => D.int (i : Nat)) = DS at *
  generalize acc.map wD = L at *
  generalize rowD r = R1 at *
  generalize r.getD i 0 = ri at *
  generalize hB : ir_lj = B at e1
  unfold ir_li
  rw [hB]
  simp only [fl] at e1
  simp [EI, ES, EV, EV2, EG, wipeE, fl, after_imm, setTg, hix, im, isRng, biO, one1, hl, c, e1]
theorem law_throws_ok (hr : ∀ k ∈ r, k < ws.length) (hn : r.length ≤ 100) (g : G) : s__law_throws [winsD ws, rowD r] g = .ok (.lst ((sortW (lawL ws r)).map wD)) g := by
  obtain ⟨env', g', e1, z3, z4, z5, z6, z7, z8, he, hg⟩ := forGo_inv (t := .one 3) (b := evSs false ir_li) (ds := (List.range r.length).map fun i => D.int (i : Nat))
    (fun i env g2 => ∃ z3 z4 z5 z6 z7 z8, env = [some (winsD ws, false), some (rowD r, false), some (.lst (((List.range i).flatMap (lI ws r)).map wD), true), fl z3, fl z4, fl z5, fl z6, fl z7, fl z8, fl none] ∧ g2 = g)
    (env := [some (winsD ws, false), some (rowD r, false), some (.lst [], true), none, none, none, none, none, none, none]) (g := g) ⟨none, none, none, none, none, none, rfl, rfl⟩
    fun i hi env g2 ⟨z3, z4, z5, z6, z7, z8, he, hg⟩ => by
      subst he hg
      have hi' : i < r.length := by simpa using hi
      have hl := law_part ws r i hn (by omega)
      obtain ⟨u4, u5, u6, u7, u8, e⟩ := li_ok ws r hr hn i hi' ((List.range i).flatMap (lI ws r)) (by omega) z4 z5 z6 z7 z8 none g2
      refine ⟨[some (winsD ws, false), some (rowD r, false), some (.lst (((List.range i).flatMap (lI ws r)).map wD), true), some (natD i, false), fl z4, fl z5, fl z6, fl z7, fl z8, fl none], by simp [setTg, natD], _, _, .inl e, some (natD i), u4, u5, u6, u7, u8, ?_, rfl⟩
      rw [range_succ_flat]
      rfl
  subst he hg
  rw [List.length_map, List.length_range] at e1
  have c := rng1_nat r.length (by omega)
  have hl := len_row r
  have hs := sortF_w (lawL ws r)
  have k0 : kids (.lst []) = true := rfl
  unfold s__law_throws
  rw [ir_lt_eq]
  change forGo _ _ _ _ _ = .ok (.nx [_, _, some (.lst ((lawL ws r).map wD), true), _, _, _, _, _, _, _]) _ at e1
  generalize (lawL ws r).map wD = LA at *
  generalize (sortW (lawL ws r)).map wD = LS at *
  generalize (List.range r.length).map (fun i => D.int (i : Nat)) = DS at *
  generalize rowD r = R1 at *
  generalize ir_li = B at e1
  have i1 : imm (.lst LS) = false := rfl
  simp only [fl] at e1
  simp [runD, EI, ES, EV, EV2, EG, envOf, wipeE, endM, fl, after_imm, after_f, k0, sz0, isRng, biO, one1, hl, c, e1, hs, i1]
end
/-! both lists hold the same -/
theorem flat_app {α β : Type} (f h : α → List β) : ∀ l : List α, (l.flatMap fun x => f x ++ h x).Perm (l.flatMap f ++ l.flatMap h)
  | [] => .refl _
  | x :: l => by
    rw [List.flatMap_cons, List.flatMap_cons, List.flatMap_cons, List.append_assoc, List.append_assoc]
    refine List.Perm.append_left _ ?_
    refine ((flat_app f h l).append_left (h x)).trans ?_
    rw [← List.append_assoc, ← List.append_assoc]
    exact List.Perm.append_right _ List.perm_append_comm
theorem flat_perm {α β : Type} {f h : α → List β} : ∀ l : List α, (∀ x ∈ l, (f x).Perm (h x)) → (l.flatMap f).Perm (l.flatMap h)
  | [], _ => .refl _
  | x :: l, q => by
    rw [List.flatMap_cons, List.flatMap_cons]
    exact (q x List.mem_cons_self).append (flat_perm l fun y hy => q y (List.mem_cons_of_mem _ hy))
/-- over all places, those ahead -/
theorem flat_take {β : Type} (H : Nat → List β) (r : List Nat) (i : Nat) (hi : i ≤ r.length) : ((List.range r.length).flatMap fun j => if j < i then H (r.getD j 0) else []) = (r.take i).flatMap H := by
  have key : ∀ n, n ≤ r.length → ((List.range n).flatMap fun j => if j < i then H (r.getD j 0) else []) = (r.take (min n i)).flatMap H := by
    intro n
    induction n with
    | zero => intro _; simp
    | succ n ih =>
      intro hn
      rw [range_succ_flat, ih (by omega)]
      by_cases h : n < i
      · rw [if_pos h, Nat.min_eq_left (by omega), Nat.min_eq_left (by omega), List.take_succ_eq_append_getElem (by omega), List.flatMap_append, getD_r r n (by omega)]
        simp
      · rw [if_neg h, List.append_nil, Nat.min_eq_right (by omega), Nat.min_eq_right (by omega)]
  rw [key r.length (Nat.le_refl _), Nat.min_eq_right hi]
theorem flat_drop {β : Type} (H : Nat → List β) (r : List Nat) (i : Nat) : ((List.range r.length).flatMap fun j => if i < j then H (r.getD j 0) else []) = (r.drop (i + 1)).flatMap H := by
  have key : ∀ n, n ≤ r.length → ((List.range n).flatMap fun j => if i < j then H (r.getD j 0) else []) = ((r.take n).drop (i + 1)).flatMap H := by
    intro n
    induction n with
    | zero => intro _; simp
    | succ n ih =>
      intro hn
      rw [range_succ_flat, ih (by omega), List.take_succ_eq_append_getElem (by omega)]
      by_cases h : i < n
      · rw [if_pos h, List.drop_append_of_le_length (by rw [List.length_take]; omega), List.flatMap_append, getD_r r n (by omega)]
        simp
      · rw [if_neg h, List.append_nil]
        have h1 : (r.take n).drop (i + 1) = [] := List.drop_eq_nil_of_le (by rw [List.length_take]; omega)
        have h2 : (r.take n ++ [r[n]]).drop (i + 1) = [] := List.drop_eq_nil_of_le (by rw [List.length_append, List.length_take]; simp; omega)
        rw [h1, h2]
  rw [key r.length (Nat.le_refl _), List.take_length]
theorem same_throws (ws : Ws) (r : List Nat) : (lawL ws r).Perm (allL ws r) := by
  unfold lawL allL
  have h1 : ((List.range r.length).flatMap (lI ws r)).Perm ((List.range r.length).flatMap fun i => (List.range r.length).flatMap (mJ ws r i) ++ ((List.range r.length).flatMap (fJ ws r i) ++ (List.range r.length).flatMap (bJ ws r i))) := by
    refine flat_perm _ fun i _ => ?_
    unfold lI lJ
    exact (flat_app _ _ _).trans ((flat_app _ _ _).append_left _)
  refine h1.trans ((flat_app _ _ _).trans ?_)
  have h2 : ((List.range r.length).flatMap fun i => (List.range r.length).flatMap (mJ ws r i)) = midL ws r := by
    unfold midL
    congr 1
    funext i
    exact flat_drop (mG ws (r.getD i 0)) r i
  have h3 : ((List.range r.length).flatMap fun i => (List.range r.length).flatMap (fJ ws r i) ++ (List.range r.length).flatMap (bJ ws r i)).Perm ((List.range r.length).flatMap (stepL ws r)) := by
    refine flat_perm _ fun i hi => ?_
    have hi := List.mem_range.mp hi
    have e1 := flat_take (fG ws (r.drop (i + 1)) (r.getD i 0)) r i (by omega)
    have e2 := flat_drop (bG ws (r.take i) (r.getD i 0)) r i
    unfold stepL frontL backL
    rw [← e1, ← e2]
    exact .refl _
  rw [h2]
  exact h3.append_left _
theorem throws_eq (ws : Ws) (r : List Nat) : sortW (lawL ws r) = sortW (allL ws r) := sortW_uniq (same_throws ws r)
end K37
end
section
set_option maxHeartbeats 2000000
namespace K37
open PySem Dv Pg Pm L2
section
variable (ws : Ws) (r : List Nat)
theorem is_order_ok (h : RowOk ws.length r) (hl : r.length = ws.length) (hn : ws.length ≤ 100) (g : G) : s_is_order [bookD ws, rowD r] g = .ok (.bl true) g := by
  have e1 := fun g => is_row_ok ws r h (by omega) g
  have e2 := fun g => many_of_ok ws g
  have e3 := len_row r
  have trb : ∀ b, tru (.bl b) = some b := fun _ => rfl
  have c : cmpO .Eq (.int (r.length : Nat)) (.int (ws.length : Nat)) = some (.bl true) := by
    rw [hl]
    show (eqD (.int (ws.length : Nat)) (.int (ws.length : Nat))).map D.bl = _
    rw [eqD_int]; simp
  have a : ∀ b, after false [] b [some (bookD ws, false), some (rowD r, false)] = some [some (bookD ws, false), some (rowD r, false)] := fun b => after_fl [] b [some (bookD ws), some (rowD r)]
  simp [s_is_order, ir_is_order, runD, EI, ES, EV, EG, envOf, wipeE, endM, a, e1, e2, e3, trb, biO, one1, c]
theorem check_order_ok (h : RowOk ws.length r) (hl : r.length = ws.length) (hn : ws.length ≤ 100) (g : G) : s_check_order [bookD ws, rowD r] g = .ok .non g := by
  have e := fun g => is_order_ok ws r h hl hn g
  have trb : ∀ b, tru (.bl b) = some b := fun _ => rfl
  simp [s_check_order, ir_check_order, runD, EI, ES, EV, EG, envOf, wipeE, endM, e, trb]
theorem throws_ok (h : RowOk ws.length r) (hl : r.length = ws.length) (hn : ws.length ≤ 100) (g : G) : s_throws [bookD ws, rowD r] g = .ok (.lst ((sortW (allL ws r)).map wD)) g := by
  have e := fun g => check_order_ok ws r h hl hn g
  have e2 := fun g => all_throws_ok ws r h.lt (by omega) g
  have a : ∀ b, after false [] b [some (bookD ws, false), some (rowD r, false)] = some [some (bookD ws, false), some (rowD r, false)] := fun b => after_fl [] b [some (bookD ws), some (rowD r)]
  generalize (sortW (allL ws r)).map wD = L at *
  simp [s_throws, ir_throws, runD, EI, ES, EV, EG, envOf, wipeE, endM, a, e, e2]
theorem throwsN_ok (h : RowOk ws.length r) (hl : r.length = ws.length) (hn : ws.length ≤ 100) (g : G) : sN_throws [bookD ws, rowD r] g = .ok (.lst ((sortW (allL ws r)).map wD)) g := by
  have e := fun g => check_order_ok ws r h hl hn g
  have e2 := fun g => all_throwsN_ok ws r h.lt (by omega) g
  have a : ∀ b, after false [] b [some (bookD ws, false), some (rowD r, false)] = some [some (bookD ws, false), some (rowD r, false)] := fun b => after_fl [] b [some (bookD ws), some (rowD r)]
  generalize (sortW (allL ws r)).map wD = L at *
  simp [sN_throws, irN_throws, Dv.runN, EI, ES, EV, EG, ERF, envOf, wipeE, a, e, e2]
theorem is_one_ok (h : RowOk ws.length r) (hl : r.length = ws.length) (hn : ws.length ≤ 100) (g : G) : s_is_one_order [bookD ws, rowD r] g = .ok (.bl (decide ((sortW (allL ws r)).length = 0))) g := by
  have e := fun g => is_order_ok ws r h hl hn g
  have e2 := fun g => all_throws_ok ws r h.lt (by omega) g
  have trb : ∀ b, tru (.bl b) = some b := fun _ => rfl
  have hL : lenF (.lst ((sortW (allL ws r)).map wD)) = some (.int ((sortW (allL ws r)).length : Nat)) := by unfold lenF; simp
  generalize (sortW (allL ws r)).length = n at *
  have c : cmpO .Eq (.int (n : Nat)) (.int 0) = some (.bl (decide (n = 0))) := by
    show (eqD (.int (n : Nat)) (.int 0)).map D.bl = _
    rw [eqD_int]
    simp only [Option.map_some]
    congr 2
    by_cases h : n = 0
    · subst h; rfl
    · have : ((n : Int) == 0) = false := by rw [beq_eq_false_iff_ne]; omega
      rw [this]; simp [h]
  have a : ∀ b, after false [] b [some (bookD ws, false), some (rowD r, false)] = some [some (bookD ws, false), some (rowD r, false)] := fun b => after_fl [] b [some (bookD ws), some (rowD r)]
  generalize (sortW (allL ws r)).map wD = L at *
  simp [s_is_one_order, ir_is_one_order, runD, EI, ES, EV, EG, envOf, wipeE, endM, a, e, e2, trb, biO, one1, hL, c]
end
/-! windows -/
def ir_nb : SIs := (.cons (.set [3] (.one 6) (.call "_law_draw" 2 Pg.s__law_draw (.cons (.var 0) (.cons (.bin .Add (.bin .FloorDiv (.var 4) (.cst (.int 2))) (.cst (.int 1))) .nil))))
 (.cons (.set [3] (.one 7) (.bin .Add (.bin .Sub (.var 4) (.var 6)) (.idx (.lst (.cons (.cst (.int 0)) (.cons (.cst (.int 0)) (.cons (.cst (.int 0)) (.cons (.cst (.int 1)) (.cons (.cst (.int 2)) .nil)))))) (.call "_law_draw" 2 Pg.s__law_draw (.cons (.var 0) (.cons (.cst (.int 5)) .nil))))))
 (.cons (.app [3] 3 (.tup (.cons (.var 6) (.cons (.var 7) .nil))))
 .nil)))
theorem ir_n_eq : ir__law_nested = (.cons (.own [3] 3 (.lst .nil))
 (.cons (.set [3] (.one 4) (.bin .Add (.var 2) (.call "_law_draw" 2 Pg.s__law_draw (.cons (.var 0) (.cons (.cst (.int 3)) .nil)))))
 (.cons (.for [3] (.one 5) (.rng1 (.var 1)) ir_nb)
 (.cons (.ret [] (.bi .tuple (.cons (.var 3) .nil)))
 .nil)))) := rfl
theorem pick5 (j : Int) (h0 : 0 ≤ j) (h1 : j < 5) : ∃ k : Int, idxO (.lst [.int 0, .int 0, .int 0, .int 1, .int 2]) (.int j) = some (.int k) ∧ 0 ≤ k ∧ k ≤ 2 := by
  have : j = 0 ∨ j = 1 ∨ j = 2 ∨ j = 3 ∨ j = 4 := by omega
  rcases this with rfl | rfl | rfl | rfl | rfl
  · exact ⟨0, rfl, by omega, by omega⟩
  · exact ⟨0, rfl, by omega, by omega⟩
  · exact ⟨0, rfl, by omega, by omega⟩
  · exact ⟨1, rfl, by omega, by omega⟩
  · exact ⟨2, rfl, by omega, by omega⟩
theorem nb_ok (n top mid k : Int) (h0 : 0 ≤ mid) (h1 : mid ≤ 1000) (ws : Ws) (hl : ws.length ≤ 1000) (hw : ∀ q ∈ ws, winOk q) (x6 x7 : Option (D × Bool)) (p : PSt) : ∃ (q : Int × Int) (p' : PSt), winOk q ∧
    evSs false ir_nb [some (.pool, false), some (.int n, false), some (.int top, false), some (.lst (ws.map winD), true), some (.int mid, false), some (.int k, false), x6, x7] (some p) =
      .ok (.nx [some (.pool, false), some (.int n, false), some (.int top, false), some (.lst ((ws ++ [q]).map winD), true), some (.int mid, false), some (.int k, false), some (.int q.1, false), some (.int q.2, false)]) (some p') := by
  have d1 := draw_ok p (mid / 2 + 1) (by omega) (by omega)
  have lo := drawV_lo p (m := mid / 2 + 1) (by omega)
  have hi := drawV_hi p (m := mid / 2 + 1) (by omega)
  generalize drawV p (mid / 2 + 1) = a at *
  generalize drawP p (mid / 2 + 1) = p1 at *
  have d5 := draw_ok p1 5 (by omega) (by omega)
  obtain ⟨c, hc, c0, c1⟩ := pick5 (drawV p1 5) (drawV_lo p1 (by omega)) (drawV_hi p1 (by omega))
  generalize drawV p1 5 = j at *
  generalize drawP p1 5 = p2 at *
  refine ⟨(a, mid - a + c), p2, ⟨?_, ?_, ?_⟩, ?_⟩
  · show (0 : Int) ≤ a; omega
  · show a ≤ mid - a + c; omega
  · show mid - a + c ≤ 1000000; omega
  have hsz : (ws.map winD).length < sizeLine := size_lt (by rw [List.length_map]; omega)
  have im : ∀ z, imm (.int z) = true := fun _ => rfl
  have imt : ∀ x y, imm (.tup [.int x, .int y]) = true := fun _ _ => rfl
  have f2 : binO .FloorDiv (.int mid) (.int 2) = some (.int (mid / 2)) := fdiv_ok (by omega) (by omega)
  have sz5 : Dv.sizeOk D.lst [D.int 0, .int 0, .int 0, .int 1, .int 2] = some (.lst [D.int 0, .int 0, .int 0, .int 1, .int 2]) := sz_ok _ _ (by simp)
  have wd : winD (a, mid - a + c) = .tup [.int a, .int (mid - a + c)] := rfl
  rw [List.map_append]
  generalize ws.map winD = L at *
  have s1 : binO .Sub (.int mid) (.int a) = some (.int (mid - a)) := rfl
  have s2 : binO .Add (.int (mid - a)) (.int c) = some (.int (mid - a + c)) := rfl
  have s3 : binO .Add (.int (mid / 2)) (.int 1) = some (.int (mid / 2 + 1)) := rfl
  simp [ir_nb, EI, ES, EV, EG, wipeE, after_imm, setTg, f2, s1, s2, s3, d1, d5, sz5, hc, im, s_app, ownL, sz2, imt, hsz, wd]
theorem nested_ok (n : Nat) (top : Int) (hn : n ≤ 100) (h0 : 0 ≤ top) (h1 : top ≤ 60) (p : PSt) : ∃ ws p', s__law_nested [.pool, .int n, .int top] (some p) = .ok (winsD ws) (some p') ∧ ws.length = n ∧ ∀ w ∈ ws, winOk w := by
  have d3 := draw_ok p 3 (by omega) (by omega)
  have lo := drawV_lo p (m := 3) (by omega)
  have hi3 := drawV_hi p (m := 3) (by omega)
  generalize drawV p 3 = a at *
  generalize drawP p 3 = p1 at *
  obtain ⟨env', g', e1, ws, ps, x5, x6, x7, hg, he, hl, hw⟩ := forGo_inv (t := .one 5) (b := evSs false ir_nb) (ds := (List.range n).map fun i => D.int (i : Nat))
    (fun i env g => ∃ (ws : Ws) (q : PSt) (x5 x6 x7 : Option (D × Bool)), g = some q ∧ env = [some (.pool, false), some (.int n, false), some (.int top, false), some (.lst (ws.map winD), true), some (.int (top + a), false), x5, x6, x7] ∧ ws.length = i ∧ ∀ w ∈ ws, winOk w)
    (env := [some (.pool, false), some (.int n, false), some (.int top, false), some (.lst [], true), some (.int (top + a), false), none, none, none]) (g := some p1)
    ⟨[], _, none, none, none, rfl, rfl, rfl, fun w hw => by cases hw⟩
    fun i hi env g ⟨ws, q, x5, x6, x7, hg, he, hl, hw⟩ => by
      subst hg he
      have hi' : i < n := by simpa using hi
      obtain ⟨qw, p', ho, e⟩ := nb_ok n top (top + a) i (by omega) (by omega) ws (by omega) hw x6 x7 q
      refine ⟨[some (.pool, false), some (.int n, false), some (.int top, false), some (.lst (ws.map winD), true), some (.int (top + a), false), some (.int (i : Nat), false), x6, x7], by simp [setTg], _, _, .inl e, ws ++ [qw], p', _, _, _, rfl, rfl, by simp [hl], ?_⟩
      intro w hw'
      rcases List.mem_append.mp hw' with h | h
      · exact hw w h
      · rw [List.mem_singleton.mp h]; exact ho
  subst hg he
  refine ⟨ws, ps, ?_, by simpa using hl, hw⟩
  have hr : rng1O [.int n] = some ((List.range n).map fun i => D.int (i : Nat)) := rng1_nat n (by omega)
  have hi : imms (ws.map winD) = true := imm_winsD ws
  have im : ∀ z, imm (.int z) = true := fun _ => rfl
  have iw : imm (.tup (ws.map winD)) = true := hi
  have k0 : kids (.lst []) = true := rfl
  unfold s__law_nested winsD
  rw [ir_n_eq]
  generalize (List.range n).map (fun i => D.int (i : Nat)) = DS at *
  generalize ws.map winD = L at *
  simp [runD, EI, ES, EV, EG, envOf, wipeE, endM, after_imm, setTg, binO, addD, d3, im, k0, sz0, isRng, hr, e1, biO, one1, tupF, iw]
theorem book_windows_ok (n : Nat) (hn : n ≤ 40) (p : PSt) : ∃ ws p', s__law_book_windows [.pool, .int n] (some p) = .ok (winsD ws) (some p') ∧ ws.length = n ∧ ∀ w ∈ ws, winOk w := by
  have d4 := draw_ok p 4 (by omega) (by omega)
  obtain ⟨d, hd, hx⟩ := idx_any [.int 5, .int 12, .int 12, .int 100000] (drawV p 4) (drawV_lo p (by omega)) (drawV_hi p (by omega))
  obtain ⟨top, rfl, t0, t1⟩ : ∃ top : Int, d = .int top ∧ 0 ≤ top ∧ top ≤ 100000 := by
    simp only [List.mem_cons, List.not_mem_nil, or_false] at hd
    rcases hd with rfl | rfl | rfl | rfl
    · exact ⟨5, rfl, by omega, by omega⟩
    · exact ⟨12, rfl, by omega, by omega⟩
    · exact ⟨12, rfl, by omega, by omega⟩
    · exact ⟨100000, rfl, by omega, by omega⟩
  generalize drawV p 4 = j at *
  generalize drawP p 4 = p1 at *
  have d3 := draw_ok p1 3 (by omega) (by omega)
  have pw : powD (.int 10) (.int 5) = some (.int 100000) := by simp [powD, cb_iff]
  have s4 : Dv.sizeOk D.lst [D.int 5, .int 12, .int 12, .int 100000] = some (.lst [D.int 5, .int 12, .int 12, .int 100000]) := sz_ok _ _ (by simp)
  have im : ∀ z, imm (.int z) = true := fun _ => rfl
  have trb : ∀ b, tru (.bl b) = some b := fun _ => rfl
  have cq : cmpO .Eq (.int (drawV p1 3)) (.int 0) = some (.bl (decide (drawV p1 3 = 0))) := by
    show (eqD (.int (drawV p1 3)) (.int 0)).map D.bl = _
    simp [eqD_int]; exact Bool.beq_eq_decide_eq _ _
  have hb : binO .Pow (.int 10) (.int 5) = some (.int 100000) := pw
  by_cases h : drawV p1 3 = 0
  · rw [decide_eq_true h] at cq
    have hm : biO .min2 [.int top, .int 60] = some (.int (min top 60)) := rfl
    obtain ⟨ws, p2, e, hl, hw⟩ := nested_ok n (min top 60) (by omega) (by omega) (by omega) (drawP p1 3)
    refine ⟨ws, p2, ?_, hl, hw⟩
    have iw : imm (winsD ws) = true := imm_winsD ws
    generalize winsD ws = W at *
    simp [s__law_book_windows, ir__law_book_windows, runD, EI, ES, EV, EG, envOf, wipeE, endM, after_imm, setTg, hb, s4, d4, hx, im, d3, cq, trb, hm, e, iw]
  · rw [decide_eq_false h] at cq
    obtain ⟨ws, p2, e, hl, hw⟩ := windows_ok n top hn t0 (by omega) (drawP p1 3)
    refine ⟨ws, p2, ?_, hl, hw⟩
    have iw : imm (winsD ws) = true := imm_winsD ws
    generalize winsD ws = W at *
    simp [s__law_book_windows, ir__law_book_windows, runD, EI, ES, EV, EG, envOf, wipeE, endM, after_imm, setTg, hb, s4, d4, hx, im, d3, cq, trb, e, iw]
end K37
end
section
set_option maxHeartbeats 2000000
namespace K37
open PySem Dv Pg Pm L2
def ir_bm : SIs := (.cons (.own [3, 5] 5 (.comp [("_law_work", 6)] (.one 6) (.seq (.var 2)) (.cmp .Eq (.call "_law_middle" 2 s__law_middle (.cons (.var 1) (.cons (.var 6) .nil))) (.var 4)) (.var 6)))
 (.cons (.ext [3] 3 (.call "_law_row" 2 Pg.s__law_row (.cons (.var 0) (.cons (.var 5) .nil))))
 .nil))
theorem ir_bm_eq : ir__law_by_middles = (.cons (.own [3, 5] 3 (.lst .nil))
 (.cons (.for [3, 5] (.one 4) (.seq (.sset (.comp [("_law_work", 6)] (.one 6) (.seq (.var 2)) .yes (.call "_law_middle" 2 s__law_middle (.cons (.var 1) (.cons (.var 6) .nil)))))) ir_bm)
 (.cons (.ret [5] (.bi .tuple (.cons (.var 3) .nil)))
 .nil))) := rfl
section
variable (ws : Ws) (l : List Nat)
theorem bmc (hl : ∀ k ∈ l, k < ws.length) (hn : l.length ≤ 100) (m : Int) (e0 e3 e5 e6 : Option (D × Bool)) (g : G) :
    compM [6] (.one 6) (seqM (getM 2)) (truM (bind2 (cmpO .Eq) (callM 2 s__law_middle (consM (getM 1) (consM (getM 6) nilM))) (getM 4))) (getM 6)
      [e0, some (winsD ws, false), some (lrowD l, false), e3, some (.int m, false), e5, e6] g = .ok (lrowD (l.filter fun x => midV ws x == m)) g := by
  rw [g_compM]
  have h1 : seqM (getM 2) [e0, some (winsD ws, false), some (lrowD l, false), e3, some (.int m, false), e5, e6] g = .ok (l.map natD) g := by
    have hs2 : seqO (lrowD l) = some (l.map natD) := rfl
    generalize l.map natD = DS at *
    generalize lrowD l = R2 at *
    simp [EG, hs2]
  rw [h1]
  simp only
  rw [if_pos (fits _ (by rw [List.length_map]; omega)), compGo_map _ natD (fun x => midV ws x == m) natD g l fun x hx => ?_]
  · rfl
  have e := fun g => law_middle_ok ws x (hl x hx) g
  have c : cmpO .Eq (.int (midV ws x)) (.int m) = some (.bl (midV ws x == m)) := by
    show (eqD (.int (midV ws x)) (.int m)).map D.bl = _
    rw [eqD_int]; rfl
  have trb : ∀ b, tru (.bl b) = some b := fun _ => rfl
  rw [g_step1]
  cases q : midV ws x == m <;> rw [q] at c <;> simp [EG, wipeE, e, c, trb]
theorem bms (hl : ∀ k ∈ l, k < ws.length) (hn : l.length ≤ 100) (e0 e3 e4 e5 e6 : Option (D × Bool)) (g : G) :
    compM [6] (.one 6) (seqM (getM 2)) yesT (callM 2 s__law_middle (consM (getM 1) (consM (getM 6) nilM)))
      [e0, some (winsD ws, false), some (lrowD l, false), e3, e4, e5, e6] g = .ok (.lst ((l.map (midV ws)).map D.int)) g := by
  rw [g_compM]
  have h1 : seqM (getM 2) [e0, some (winsD ws, false), some (lrowD l, false), e3, e4, e5, e6] g = .ok (l.map natD) g := by
    have hs2 : seqO (lrowD l) = some (l.map natD) := rfl
    generalize l.map natD = DS at *
    generalize lrowD l = R2 at *
    simp [EG, hs2]
  rw [h1]
  simp only
  rw [if_pos (fits _ (by rw [List.length_map]; omega)), compGo_all _ natD (fun x => D.int (midV ws x)) g l fun x hx => ?_]
  · rw [List.map_map]; rfl
  have e := fun g => law_middle_ok ws x (hl x hx) g
  rw [g_step1]
  simp [EG, wipeE, e]
theorem filt_disj {α : Type} (p q : α → Bool) : ∀ l : List α, (∀ x ∈ l, ¬ (p x = true ∧ q x = true)) → (l.filter fun x => p x || q x).Perm (l.filter p ++ l.filter q)
  | [], _ => .refl _
  | x :: l, h => by
    have ih := filt_disj p q l fun y hy => h y (List.mem_cons_of_mem _ hy)
    have hx := h x List.mem_cons_self
    cases hp : p x with
    | true =>
      have hq : q x = false := by cases hq : q x with
        | false => rfl
        | true => exact absurd ⟨hp, hq⟩ hx
      simp only [List.filter_cons, hp, hq, Bool.true_or, if_true, Bool.false_eq_true, if_false, List.cons_append]
      exact ih.cons x
    | false =>
      cases hq : q x with
      | false =>
        simp only [List.filter_cons, hp, hq, Bool.or_self, Bool.false_eq_true, if_false]
        exact ih
      | true =>
        simp only [List.filter_cons, hp, hq, Bool.or_true, if_true, Bool.false_eq_true, if_false]
        exact (ih.cons x).trans List.perm_middle.symm
theorem bm_ok (hl : ∀ k ∈ l, k < ws.length) (hn : l.length ≤ 100) (m : Int) (acc : List Nat) (hacc : acc.length ≤ 100000) (x5 : Option (D × Bool)) (p : PSt) : ∃ (rr : List Nat) (p' : PSt) (z5 : Option (D × Bool)), rr.Perm (l.filter fun x => midV ws x == m) ∧
    evSs false ir_bm [some (.pool, false), some (winsD ws, false), some (lrowD l, false), some (.lst (acc.map natD), true), some (.int m, false), x5, none] (some p) =
      .ok (.nx [some (.pool, false), some (winsD ws, false), some (lrowD l, false), some (.lst ((acc ++ rr).map natD), true), some (.int m, false), z5, none]) (some p') := by
  have c := bmc ws l hl hn m (some (.pool, false)) none none none (some p)
  have hfl : (l.filter fun x => midV ws x == m).length ≤ 100 := Nat.le_trans (List.length_filter_le _ _) hn
  obtain ⟨rr, p', e, hp⟩ := row_okL (l.filter fun x => midV ws x == m) (by omega) p
  refine ⟨rr, p', some (lrowD (l.filter fun x => midV ws x == m), true), hp, ?_⟩
  have hrl := hp.length_eq
  have k1 : kids (lrowD (l.filter fun x => midV ws x == m)) = true := imms_row _
  have i1 : imm (rowD rr) = true := imms_row _
  have hsz : (acc.map natD).length + (rr.map natD).length ≤ sizeLine := size_le (by rw [List.length_map, List.length_map]; omega)
  rw [List.map_append]
  generalize lrowD (l.filter fun x => midV ws x == m) = A at *
  have hr : rowD rr = .tup (rr.map natD) := rfl
  rw [hr] at e i1
  generalize rr.map natD = RR at *
  generalize acc.map natD = L at *
  simp [ir_bm, EI, ES, EV, EV2, EG, wipeE, after_imm, c, k1, e_ext, s_ext, ownL, e, i1, hsz]
theorem by_middles_ok (hl : ∀ k ∈ l, k < ws.length) (hn : l.length ≤ 60) (p : PSt) : ∃ (r : List Nat) (p' : PSt), r.Perm l ∧ s__law_by_middles [.pool, winsD ws, lrowD l] (some p) = .ok (rowD r) (some p') := by
  have hs := bms ws l hl (by omega) (some (.pool, false)) none none none none (some p)
  have hss : ssetO (.lst ((l.map (midV ws)).map D.int)) = some (.lst ((sortU (l.map (midV ws))).map D.int)) := by
    show ((intsD ((l.map (midV ws)).map D.int)).bind fun ns => if ns.length < 64 then some (D.lst ((sortU ns).map .int)) else none) = _
    rw [intsD_ints]
    show (if (l.map (midV ws)).length < 64 then _ else none) = _
    rw [if_pos (by rw [List.length_map]; omega)]
  have hmem : ∀ k ∈ l, midV ws k ∈ sortU (l.map (midV ws)) := fun k hk => by
    unfold sortU
    rw [(sortI_perm _).mem_iff, mem_dedI]
    exact List.mem_map_of_mem hk
  have hnd : (sortU (l.map (midV ws))).Nodup := (sortI_perm _).nodup_iff.mpr (dedI_nodup _)
  generalize sortU (l.map (midV ws)) = ms at *
  obtain ⟨env', g', e1, acc, z4, z5, q, hp, hlen, he, hg⟩ := forGo_inv (t := .one 4) (b := evSs false ir_bm) (ds := ms.map D.int)
    (fun i env g2 => ∃ (acc : List Nat) (z4 : Option D) (z5 : Option (D × Bool)) (q : PSt), acc.Perm (l.filter fun x => decide (midV ws x ∈ ms.take i)) ∧ acc.length ≤ l.length ∧ env = [some (.pool, false), some (winsD ws, false), some (lrowD l, false), some (.lst (acc.map natD), true), fl z4, z5, none] ∧ g2 = some q)
    (env := [some (.pool, false), some (winsD ws, false), some (lrowD l, false), some (.lst [], true), none, none, none]) (g := some p) ⟨[], none, none, p, by simp, by simp, rfl, rfl⟩
    fun i hi env g2 ⟨acc, z4, z5, q, hp, hlen, he, hg⟩ => by
      subst he hg
      have hi' : i < ms.length := by simpa using hi
      obtain ⟨rr, p', u5, hrr, e⟩ := bm_ok ws l hl (by omega) ms[i] acc (by omega) z5 q
      have hperm : (acc ++ rr).Perm (l.filter fun x => decide (midV ws x ∈ ms.take (i + 1))) := by
        refine (hp.append hrr).trans ?_
        have e1 : (fun x => decide (midV ws x ∈ ms.take (i + 1))) = fun x => (decide (midV ws x ∈ ms.take i) || midV ws x == ms[i]) := by
          funext x
          rw [Bool.eq_iff_iff, Bool.or_eq_true, decide_eq_true_eq, decide_eq_true_eq, beq_iff_eq, List.take_succ_eq_append_getElem hi', List.mem_append, List.mem_singleton]
        rw [e1]
        refine (filt_disj _ _ l fun x _ ⟨h1, h2⟩ => ?_).symm
        have h1 := of_decide_eq_true h1
        have h2 := beq_iff_eq.mp h2
        rw [h2] at h1
        have hd : (ms.take i ++ ms.drop i).Nodup := by rw [List.take_append_drop]; exact hnd
        refine (List.nodup_append.mp hd).2.2 _ h1 _ ?_ rfl
        rw [List.drop_eq_getElem_cons hi']
        exact List.mem_cons_self
      refine ⟨[some (.pool, false), some (winsD ws, false), some (lrowD l, false), some (.lst (acc.map natD), true), some (.int ms[i], false), z5, none], by simp [setTg], _, _, .inl e, acc ++ rr, some (.int ms[i]), u5, p', hperm, ?_, rfl, rfl⟩
      rw [hperm.length_eq]
      exact List.length_filter_le _ _
  subst he hg
  rw [List.length_map, List.take_length] at hp
  have hall : (l.filter fun x => decide (midV ws x ∈ ms)) = l := List.filter_eq_self.mpr fun x hx => decide_eq_true (hmem x hx)
  rw [hall] at hp
  refine ⟨acc, q, hp, ?_⟩
  have k0 : kids (.lst []) = true := rfl
  have hq : seqO (.lst (ms.map D.int)) = some (ms.map D.int) := rfl
  have i1 : imm (.tup (acc.map natD)) = true := imms_row acc
  have hz : ∀ b, after false [3, 5] b [some (.pool, false), some (winsD ws, false), some (lrowD l, false), some (.lst [], true), none, none, none] = some [some (.pool, false), some (winsD ws, false), some (lrowD l, false), some (.lst [], true), none, none, none] := by
    intro b
    cases b with
    | true => rfl
    | false =>
      show some (frzE _ _) = _
      rw [frz_r]; rfl
  unfold s__law_by_middles rowD
  rw [ir_bm_eq]
  generalize (l.map (midV ws)).map D.int = MI at *
  generalize ms.map D.int = MS at *
  generalize acc.map natD = AC at *
  generalize lrowD l = LR at *
  generalize ir_bm = B at e1
  simp only [fl] at e1
  have hv : ∀ a, (ev (.sset a)).v = bind1 ssetO (ev a).v := fun _ => rfl
  simp [runD, EI, ES, EV, EV2, EG, EG2, envOf, wipeE, endM, fl, after_imm, k0, sz0, isRng, hz, hv, hs, hss, hq, e1, biO, one1, tupF, i1]
end
end K37
end
section
set_option maxHeartbeats 2000000
namespace K37
open PySem Dv Pg Pm L2
theorem rg_range (n : Nat) (h : n ≤ 100) : rgO false [.int (n : Nat)] = some (lrowD (List.range n)) := by
  have : rgOk 0 (n : Nat) = true := cb_iff.mpr (L2.RgOk.of_le (by omega) (by omega) (by omega) (by omega))
  unfold rgO
  simp only [this, if_true]
  unfold rgL rngD lrowD
  simp [natD]
def swpV (env : Dv.Env) (g : G) (i ka kb : Nat) (d : D) : RS := match d with
  | .tup [d1, d2] => (match ownL env i, slotI env ka, slotI env kb with
    | some ds, some za, some zb => (match L2.ixN ds.length za, L2.ixN ds.length zb with
      | some ja, some jb => .ok (.nx (env.set i (some (.lst ((ds.set ja d1).set jb d2), true)))) g
      | _, _ => .stuck)
    | _, _, _ => .stuck)
  | _ => .stuck
theorem s_swp (m : Bool) (i ka kb : Nat) (f : Dv.Env → M D) (env : Dv.Env) (g : G) : sSwp m i ka kb f env g = (match f env g with | .ok d g' => (match after m [] (imm d) env with | some env => swpV env g' i ka kb d | none => .stuck) | .err e g' => errS e env g' | .stuck => .stuck) := by
  unfold sSwp onD
  have : wipeE env [] = env := rfl
  rw [this]
  cases f env g <;> rfl
theorem swpV_eq (env : Dv.Env) (g : G) (i ka kb : Nat) (d1 d2 : D) (ds : List D) (za zb : Int) (ja jb : Nat) (h1 : ownL env i = some ds) (h2 : slotI env ka = some za) (h3 : slotI env kb = some zb) (h4 : L2.ixN ds.length za = some ja) (h5 : L2.ixN ds.length zb = some jb) :
    swpV env g i ka kb (.tup [d1, d2]) = .ok (.nx (env.set i (some (.lst ((ds.set ja d1).set jb d2), true)))) g := by
  unfold swpV
  simp only [h1, h2, h3, h4, h5]
theorem near_order_ok (ws : Ws) (hn0 : 1 ≤ ws.length) (hn : ws.length ≤ 60) (p : PSt) : ∃ (r : List Nat) (p' : PSt), r.Perm (List.range ws.length) ∧ s__law_near_order [.pool, winsD ws] (some p) = .ok (rowD r) (some p') := by
  have hl := len_wins ws
  have hrg := rg_range ws.length (by omega)
  have d3 := draw_ok p 3 (by omega) (by omega)
  generalize drawV p 3 = j at *
  generalize drawP p 3 = p1 at *
  have im : ∀ z, imm (.int z) = true := fun _ => rfl
  have trb : ∀ b, tru (.bl b) = some b := fun _ => rfl
  have cq : ∀ z, cmpO .Eq (.int j) (.int z) = some (.bl (j == z)) := fun z => by
    show (eqD (.int j) (.int z)).map D.bl = _
    rw [eqD_int]; rfl
  have iL : ∀ r : List Nat, imm (lrowD r) = false := fun _ => rfl
  have iR : ∀ r : List Nat, imm (rowD r) = true := fun r => imms_row r
  have hz : ∀ b x3 x4 x5 x6, after false [4] b [some (.pool, false), some (winsD ws, false), fl x3, fl x4, none, fl x5, fl x6] = some [some (.pool, false), some (winsD ws, false), fl x3, fl x4, none, fl x5, fl x6] := by
    intro b x3 x4 x5 x6
    cases b with
    | true => rfl
    | false =>
      show some (frzE _ _) = _
      rw [frz_r]
      simp only [frzR, fz_fl]; rfl
  have hz0 := hz false none none none none
  simp only [fl, Option.map_none] at hz0
  by_cases h0 : j = 0
  · obtain ⟨r, p2, e, hp⟩ := row_okL (List.range ws.length) (by rw [List.length_range]; omega) p1
    refine ⟨r, p2, hp, ?_⟩
    have c0 := cq 0
    rw [h0] at c0 d3
    have iRr := iR r
    have iLr := iL (List.range ws.length)
    generalize rowD r = R at *
    generalize lrowD (List.range ws.length) = LR at *
    have tb : ((0 : Int) == 0) = true := rfl
    rw [tb] at c0
    simp [s__law_near_order, ir__law_near_order, runD, EI, ES, EV, EV2, EG, envOf, wipeE, endM, after_imm, setTg, biO, one1, hl, hrg, iLr, hz0, d3, im, c0, trb, e, iRr]
  · have hrange : ∀ k ∈ List.range ws.length, k < ws.length := fun k hk => List.mem_range.mp hk
    obtain ⟨r, p2, hp, e⟩ := by_middles_ok ws (List.range ws.length) hrange (by rw [List.length_range]; omega) p1
    have c0 := cq 0
    have tb0 : (j == 0) = false := beq_eq_false_iff_ne.mpr h0
    rw [tb0] at c0
    have hlst : lstF (rowD r) = some (.lst (r.map natD)) := rfl
    have kL : ∀ r : List Nat, kids (.lst (r.map natD)) = true := fun r => imms_row r
    have tupl : ∀ r : List Nat, tupF (.lst (r.map natD)) = some (rowD r) := fun _ => rfl
    have hlen : r.length = ws.length := by rw [hp.length_eq, List.length_range]
    have hlr : lenF (lrowD (List.range ws.length)) = some (.int (ws.length : Nat)) := by unfold lrowD lenF; simp
    have iLr := iL (List.range ws.length)
    by_cases h1 : j = 1
    · have c1 := cq 1
      have tb1 : (j == 1) = true := by rw [h1]; rfl
      rw [tb1] at c1
      have d5 := draw_ok p2 (ws.length : Nat) (by omega) (by omega)
      have a0 := drawV_lo p2 (m := (ws.length : Nat)) (by omega)
      have a1 := drawV_hi p2 (m := (ws.length : Nat)) (by omega)
      obtain ⟨a, ha⟩ := Int.eq_ofNat_of_zero_le a0
      rw [ha] at d5 a1
      generalize drawP p2 (ws.length : Nat) = p3 at *
      have d6 := draw_ok p3 (ws.length : Nat) (by omega) (by omega)
      have b0 := drawV_lo p3 (m := (ws.length : Nat)) (by omega)
      have b1 := drawV_hi p3 (m := (ws.length : Nat)) (by omega)
      obtain ⟨b, hb⟩ := Int.eq_ofNat_of_zero_le b0
      rw [hb] at d6 b1
      generalize drawP p3 (ws.length : Nat) = p4 at *
      have hA : a < r.length := by omega
      have hB : b < r.length := by omega
      refine ⟨(r.set a r[b]).set b r[a], p4, (List.set_set_perm hA hB).trans hp, ?_⟩
      have x1 : idxO (.lst (r.map natD)) (.int (b : Nat)) = some (natD r[b]) := by
        show L2.atI (r.map natD) (b : Int) = _
        rw [atI_nat _ _ (by omega) (by simpa using hB)]
        simp [hB]
      have x2 : idxO (.lst (r.map natD)) (.int (a : Nat)) = some (natD r[a]) := by
        show L2.atI (r.map natD) (a : Int) = _
        rw [atI_nat _ _ (by omega) (by simpa using hA)]
        simp [hA]
      have n1 : L2.ixN (r.map natD).length (a : Nat) = some a := by
        unfold L2.ixN
        rw [if_pos (by omega), if_pos (by rw [List.length_map]; omega)]; simp
      have n2 : L2.ixN (r.map natD).length (b : Nat) = some b := by
        unfold L2.ixN
        rw [if_pos (by omega), if_pos (by rw [List.length_map]; omega)]; simp
      have hset : ((r.map natD).set a (natD r[b])).set b (natD r[a]) = ((r.set a r[b]).set b r[a]).map natD := by rw [List.map_set, List.map_set]
      have hT := tupl ((r.set a r[b]).set b r[a])
      have iT := iR ((r.set a r[b]).set b r[a])
      have kL0 := kL r
      have it : imm (.tup [natD r[b], natD r[a]]) = true := rfl
      generalize r[b] = rb at *
      generalize r[a] = ra at *
      rw [← hset] at hT
      generalize rowD ((r.set a rb).set b ra) = RT at *
      generalize lrowD (List.range ws.length) = LR at *
      generalize r.map natD = RL at *
      generalize rowD r = RR at *
      have sl := fun (e0 e1 e2 e3 : Option (D × Bool)) (g : G) => swpV_eq [e0, e1, e2, e3, some (.lst RL, true), some (.int (a : Nat), false), some (.int (b : Nat), false)] g 4 5 6 (natD rb) (natD ra) RL a b a b rfl rfl rfl n1 n2
      simp [s__law_near_order, ir__law_near_order, runD, EI, ES, EV, EV2, EG, envOf, wipeE, endM, after_imm, setTg, biO, one1, hl, hlr, hrg, iLr, hz0, d3, im, c0, c1, trb, e, hlst, kL0, d5, d6, e_swp, s_swp, x1, x2, sz2, it, sl, hT, iT]
    · have c1 := cq 1
      have tb1 : (j == 1) = false := beq_eq_false_iff_ne.mpr h1
      rw [tb1] at c1
      refine ⟨r, p2, hp, ?_⟩
      have hT := tupl r
      have iT := iR r
      have kL0 := kL r
      generalize lrowD (List.range ws.length) = LR at *
      generalize r.map natD = RL at *
      generalize rowD r = RR at *
      simp [s__law_near_order, ir__law_near_order, runD, EI, ES, EV, EV2, EG, envOf, wipeE, endM, after_imm, setTg, biO, one1, hl, hrg, iLr, hz0, d3, im, c0, c1, trb, e, hlst, kL0, hT, iT]
end K37
end
section
set_option maxHeartbeats 2000000
namespace K37
open PySem Dv Pg Pm L2
/-! repr of throws -/
structure SmW (p : Wd) : Prop where
  w : p.1 = "middle" ∨ p.1 = "front" ∨ p.1 = "back"
  l : p.2.length ≤ 3
  i : ∀ k ∈ p.2, 0 ≤ k ∧ k < 100
def wQ (p : Wd) : PyData := .tuple (.str p.1 :: p.2.map .int)
theorem toQs_ints : ∀ ns : List Int, toQs (ns.map D.int) = some (ns.map PyData.int)
  | [] => rfl
  | n :: r => by
    show (match toQ (D.int n), toQs (r.map D.int) with | some p, some ps => some (p :: ps) | _, _ => none) = _
    rw [toQs_ints r]; rfl
theorem toQ_w (p : Wd) : toQ (wD p) = some (wQ p) := by
  show (match toQ (D.str p.1), toQs (p.2.map D.int) with | some q, some ps => some (q :: ps) | _, _ => none).map PyData.tuple = _
  rw [toQs_ints]; rfl
theorem toQs_w : ∀ l : List Wd, toQs (l.map wD) = some (l.map wQ)
  | [] => rfl
  | p :: l => by
    show (match toQ (wD p), toQs (l.map wD) with | some p, some ps => some (p :: ps) | _, _ => none) = _
    rw [toQ_w, toQs_w l]; rfl
theorem shown_int3 {i : Int} (h0 : 0 ≤ i) (h : i < 100) : (PyData.shown (.int i)).length ≤ 3 := by
  have e := int_text_length_le10 (k := 2) (by decide) (a := i) (by omega)
  show (Str.ofString (toString i)).length ≤ 3
  rw [ofString_length]; exact e
theorem shown_ints3 : ∀ ns : List Int, (∀ k ∈ ns, 0 ≤ k ∧ k < 100) → ((PyData.shownAll (ns.map .int)).map (·.length)).sum ≤ 3 * ns.length
  | [], _ => by simp [PyData.shownAll]
  | n :: r, h => by
    have h1 := shown_int3 (h n List.mem_cons_self).1 (h n List.mem_cons_self).2
    have h2 := shown_ints3 r fun k hk => h k (List.mem_cons_of_mem _ hk)
    simp only [List.map_cons, PyData.shownAll, List.sum_cons, List.length_cons]
    omega
theorem word_len {s : Str} (h : s = "middle" ∨ s = "front" ∨ s = "back") : (PyData.shown (.str s)).length ≤ 8 := by
  rcases h with rfl | rfl | rfl <;> decide +kernel
theorem shown_w {p : Wd} (h : SmW p) : (wQ p).shown.length ≤ 40 := by
  unfold wQ
  simp only [PyData.shown]
  have h1 := tupleText_len_le (PyData.shownAll (.str p.1 :: p.2.map .int))
  have h2 := shown_ints3 p.2 h.i
  have h3 := word_len h.w
  have h4 := h.l
  have h5 := PyData.shownAll_length (.str p.1 :: p.2.map .int)
  simp only [PyData.shown] at h3
  simp only [PyData.shownAll, List.map_cons, List.sum_cons, List.length_cons, List.length_map, PyData.shown] at h1 h5 ⊢
  omega
theorem shown_ws : ∀ l : List Wd, (∀ p ∈ l, SmW p) → ((PyData.shownAll (l.map wQ)).map (·.length)).sum ≤ 40 * l.length
  | [], _ => by simp [PyData.shownAll]
  | p :: l, h => by
    have h1 := shown_w (h p List.mem_cons_self)
    have h2 := shown_ws l fun k hk => h k (List.mem_cons_of_mem _ hk)
    simp only [List.map_cons, PyData.shownAll, List.sum_cons, List.length_cons]
    omega
theorem sh_ints : ∀ ns : List Int, (∀ k ∈ ns, 0 ≤ k ∧ k < 100) → PyData.showableAll (ns.map .int) = true ∧ PyData.depthAll (ns.map .int) = 0
  | [], _ => ⟨rfl, rfl⟩
  | n :: r, h => by
    obtain ⟨h1, h2⟩ := sh_ints r fun k hk => h k (List.mem_cons_of_mem _ hk)
    have h3 := h n List.mem_cons_self
    have hs := (shw_int (i := n) (by omega)).s
    simp only [List.map_cons, PyData.showableAll, PyData.depthAll, h1, h2, hs, Bool.and_self, true_and]
    simp [PyData.depth]
theorem sh_ws : ∀ l : List Wd, (∀ p ∈ l, SmW p) → PyData.showableAll (l.map wQ) = true ∧ PyData.depthAll (l.map wQ) ≤ 1
  | [], _ => ⟨rfl, by simp [PyData.depthAll]⟩
  | p :: l, h => by
    obtain ⟨h1, h2⟩ := sh_ws l fun k hk => h k (List.mem_cons_of_mem _ hk)
    obtain ⟨h3, h4⟩ := sh_ints p.2 (h p List.mem_cons_self).i
    have e1 : (wQ p).showable = true := by
      unfold wQ
      simp only [PyData.showable, PyData.showableAll, h3, Bool.and_self]
    have e2 : (wQ p).depth ≤ 1 := by
      unfold wQ
      simp only [PyData.depth, PyData.depthAll, h4]
      simp
    constructor
    · simp only [List.map_cons, PyData.showableAll, e1, h1, Bool.and_self]
    · simp only [List.map_cons, PyData.depthAll]
      omega
theorem rep_ws (l : List Wd) (h : ∀ p ∈ l, SmW p) (hl : l.length ≤ 300000) : ∃ x, repO (.lst (l.map wD)) = some (.str x) := by
  have e : toQ (.lst (l.map wD)) = some (.list (l.map wQ)) := by
    show (toQs (l.map wD)).map PyData.list = _
    rw [toQs_w]; rfl
  obtain ⟨h1, h2⟩ := sh_ws l h
  refine ⟨(PyData.list (l.map wQ)).shown, ?_⟩
  unfold repO
  rw [e]
  show (if cb (repC (.list (l.map wQ))) then some (D.str (PyData.list (l.map wQ)).shown) else none) = _
  have hc : repC (.list (l.map wQ)) := by
    refine ⟨?_, ?_, ?_⟩
    · simp only [PyData.showable]; exact h1
    · simp only [PyData.depth]; omega
    · have k1 := listText_len_le (PyData.shownAll (l.map wQ))
      have k2 := shown_ws l h
      have k3 := PyData.shownAll_length (l.map wQ)
      rw [List.length_map] at k3
      simp only [PyData.shown]
      rw [sizeLine_eq]
      omega
  rw [cb_iff.mpr hc]
  rfl
theorem law_small (ws : Ws) (r : List Nat) (hr : ∀ k ∈ r, k < 100) : ∀ p ∈ lawL ws r, SmW p := by
  have hg : ∀ i, i < r.length → r.getD i 0 < 100 := fun i hi => by rw [getD_r r i hi]; exact hr _ (List.getElem_mem hi)
  intro p hp
  obtain ⟨i, hi, hp⟩ := List.mem_flatMap.mp hp
  obtain ⟨j, hj, hp⟩ := List.mem_flatMap.mp hp
  have ha := hg i (List.mem_range.mp hi)
  have hb := hg j (List.mem_range.mp hj)
  unfold lJ mJ fJ bJ mG fG bG at hp
  generalize r.getD i 0 = a at *
  generalize r.getD j 0 = b at *
  rcases List.mem_append.mp hp with hp | hp
  · split at hp
    · split at hp
      · obtain rfl := List.mem_singleton.mp hp
        refine ⟨.inl rfl, by simp [mW], fun k hk => ?_⟩
        simp only [mW, List.mem_cons, List.not_mem_nil, or_false] at hk
        rcases hk with rfl | rfl <;> omega
      · cases hp
    · cases hp
  · rcases List.mem_append.mp hp with hp | hp
    · split at hp
      · split at hp
        · obtain ⟨c, hc, rfl⟩ := List.mem_map.mp hp
          have hc' := hr _ (List.mem_of_mem_drop (List.mem_filter.mp hc).1)
          refine ⟨.inr (.inl rfl), by simp [fW], fun k hk => ?_⟩
          simp only [fW, List.mem_cons, List.not_mem_nil, or_false] at hk
          rcases hk with rfl | rfl | rfl <;> omega
        · cases hp
      · cases hp
    · split at hp
      · split at hp
        · obtain ⟨c, hc, rfl⟩ := List.mem_map.mp hp
          have hc' := hr _ (List.mem_of_mem_take (List.mem_filter.mp hc).1)
          refine ⟨.inr (.inr rfl), by simp [bW], fun k hk => ?_⟩
          simp only [bW, List.mem_cons, List.not_mem_nil, or_false] at hk
          rcases hk with rfl | rfl | rfl <;> omega
        · cases hp
      · cases hp
theorem lJ_len40 (ws : Ws) (r : List Nat) (i j : Nat) (hn : r.length ≤ 40) : (lJ ws r i j).length ≤ 81 := by
  unfold lJ mJ fJ bJ
  rw [List.length_append, List.length_append]
  have h1 : (if i < j then mG ws (r.getD i 0) (r.getD j 0) else []).length ≤ 1 := by
    split
    · exact mG_len ws _ _
    · simp
  have h2 : (if j < i then fG ws (r.drop (i + 1)) (r.getD i 0) (r.getD j 0) else []).length ≤ 40 := by
    split
    · exact Nat.le_trans (fG_len ws _ _ _) (by rw [List.length_drop]; omega)
    · simp
  have h3 : (if i < j then bG ws (r.take i) (r.getD i 0) (r.getD j 0) else []).length ≤ 40 := by
    split
    · exact Nat.le_trans (bG_len ws _ _ _) (by rw [List.length_take]; omega)
    · simp
  omega
theorem law_len40 (ws : Ws) (r : List Nat) (hn : r.length ≤ 40) : (lawL ws r).length ≤ 129600 := by
  have h0 : ∀ i, (lI ws r i).length ≤ 3240 := fun i => by
    have h1 := flat_len (lJ ws r i) 81 (List.range r.length) fun j _ => lJ_len40 ws r i j hn
    rw [List.length_range] at h1
    have : r.length * 81 ≤ 40 * 81 := Nat.mul_le_mul_right _ hn
    unfold lI
    omega
  have h1 := flat_len (lI ws r) 3240 (List.range r.length) fun j _ => h0 j
  rw [List.length_range] at h1
  have : r.length * 3240 ≤ 40 * 3240 := Nat.mul_le_mul_right _ hn
  unfold lawL
  omega
theorem Sh_str {x : Str} (h : x = "middle" ∨ x = "front" ∨ x = "back") : Sh 0 (.str x) := ⟨.str x, rfl, by rcases h with rfl | rfl | rfl <;> decide +kernel, by simp [PyData.depth]⟩
theorem Sh_ws (l : List Wd) (h : ∀ p ∈ l, SmW p) : Sh 2 (.lst (l.map wD)) := Sh.lst fun d hd => by
  obtain ⟨p, hp, rfl⟩ := List.mem_map.mp hd
  refine Sh.tup fun e he => ?_
  rcases List.mem_cons.mp he with rfl | he
  · exact Sh_str (h p hp).w
  · obtain ⟨i, _, rfl⟩ := List.mem_map.mp he
    exact Sh.int i
end K37
end
section
set_option maxHeartbeats 2000000
namespace K37
open PySem Dv Pg Pm L2
def st1 : SI :=
 (.set [8] (.one 3) (.bin .Add (.cst (.int 1)) (.call "_law_draw" 2 Pg.s__law_draw (.cons (.var 1) (.cons (.idx (.lst (.cons (.cst (.int 7)) (.cons (.cst (.int 7)) (.cons (.cst (.int 7)) (.cons (.cst (.int 12)) .nil))))) (.var 2)) .nil)))))
def st2 : SI :=
 (.ifs (.and (.cmp .Eq (.var 2) (.cst (.int 3))) (.last (.cmp .Eq (.call "_law_draw" 2 Pg.s__law_draw (.cons (.var 1) (.cons (.cst (.int 8)) .nil))) (.cst (.int 0)))))
 (.cons (.set [8] (.one 3) (.cst (.int 40)))
 .nil)
 .nil)
def st3 : SI :=
 (.set [8] (.one 4) (.call "_law_book_windows" 2 s__law_book_windows (.cons (.var 1) (.cons (.var 3) .nil))))
def st4 : SI :=
 (.set [8] (.one 5) (.make "Book" 0 1 Pg.s_Book_init (.cons (.var 4) .nil)))
def st5 : SI :=
 (.set [8] (.one 6) (.call "_law_near_order" 2 s__law_near_order (.cons (.var 1) (.cons (.var 4) .nil))))
def st6 : SI :=
 (.set [8] (.one 7) (.call "_law_throws" 2 s__law_throws (.cons (.var 4) (.cons (.var 6) .nil))))
def st7 : SI :=
 (.own [8] 8 (.callN "throws" 2 sN_throws (.cons (.var 5) (.cons (.var 6) .nil))))
def st8 : SI :=
 (.ifs (.or (.not (.isi (.cons (.var 8) (.cons (.tyn "list") .nil)))) (.or (.cmp .NotEq (.var 8) (.var 7)) (.last (.cmp .NotEq (.rep (.var 8)) (.rep (.var 7))))))
 (.cons (.ret [8] (.cst (.bl false)))
 .nil)
 .nil)
def st9 : SI :=
 (.ifs (.not (.call "_law_flag" 2 Pg.s__law_flag (.cons (.call "is_one_order" 2 s_is_one_order (.cons (.var 5) (.cons (.var 6) .nil))) (.cons (.cmp .Eq (.bi .len (.cons (.var 7) .nil)) (.cst (.int 0))) .nil))))
 (.cons (.ret [8] (.cst (.bl false)))
 .nil)
 .nil)
def st10 : SI :=
 (.app [8] 8 (.cst .non))
def st11 : SI :=
 (.ifs (.cmp .NotEq (.call "throws" 2 s_throws (.cons (.var 5) (.cons (.var 6) .nil))) (.var 7))
 (.cons (.ret [8] (.cst (.bl false)))
 .nil)
 .nil)
def ir_b : SIs := (.cons st1 (.cons st2 (.cons st3 (.cons st4 (.cons st5 (.cons st6 (.cons st7 (.cons st8 (.cons st9 (.cons st10 (.cons st11 .nil)))))))))))
theorem ir_law_eq : ir_law = (.cons (.set [8] (.one 1) (.call "_law_pool" 1 Pg.s__law_pool (.cons (.var 0) .nil))) (.cons (.for [8] (.one 2) (.rng1 (.cst (.int 4))) ir_b) (.cons (.ret [8] (.cst (.bl true))) .nil))) := rfl
theorem aT (y0 y1 y2 y3 y4 y5 y6 y7 : Option D) (x8 : Option (D × Bool)) (b : Bool) :
    after false [8] b [fl y0, fl y1, fl y2, fl y3, fl y4, fl y5, fl y6, fl y7, x8] = some [fl y0, fl y1, fl y2, fl y3, fl y4, fl y5, fl y6, fl y7, x8] := by
  cases b with
  | true => rfl
  | false =>
    show some (frzE _ _) = _
    rw [frz_r]
    simp only [frzR, fz_fl]
    rfl
section
variable (ns : List Int) (i : Nat) (y2 y3 y4 y5 y6 y7 : Option D) (x8 : Option (D × Bool))
theorem sA_ok (hi : i < 4) (p : PSt) : ∃ (n : Nat) (p' : PSt), 1 ≤ n ∧ n ≤ 40 ∧ ∀ rest, evSs false (.cons st1 (.cons st2 rest)) [some (D.scr ns, false), some (D.pool, false), some (.int (i : Nat), false), fl y3, fl y4, fl y5, fl y6, fl y7, x8] (some p) = evSs false rest [some (D.scr ns, false), some (D.pool, false), some (.int (i : Nat), false), some (.int (n : Nat), false), fl y4, fl y5, fl y6, fl y7, x8] (some p') := by
  have trb : ∀ b, tru (.bl b) = some b := fun _ => rfl
  have im : ∀ z, imm (.int z) = true := fun _ => rfl
  have s4 : Dv.sizeOk D.lst [D.int 7, .int 7, .int 7, .int 12] = some (.lst [D.int 7, .int 7, .int 7, .int 12]) := sz_ok _ _ (by simp)
  obtain ⟨m, hm, m1, m2⟩ : ∃ m : Int, idxO (.lst [.int 7, .int 7, .int 7, .int 12]) (.int (i : Nat)) = some (.int m) ∧ 1 ≤ m ∧ m ≤ 12 := by
    have : i = 0 ∨ i = 1 ∨ i = 2 ∨ i = 3 := by omega
    rcases this with rfl | rfl | rfl | rfl
    · exact ⟨7, rfl, by omega, by omega⟩
    · exact ⟨7, rfl, by omega, by omega⟩
    · exact ⟨7, rfl, by omega, by omega⟩
    · exact ⟨12, rfl, by omega, by omega⟩
  have dm := draw_ok p m (by omega) (by omega)
  have lo := drawV_lo p (m := m) (by omega)
  have hi2 := drawV_hi p (m := m) (by omega)
  obtain ⟨k, hk⟩ := Int.eq_ofNat_of_zero_le lo
  rw [hk] at dm hi2
  have sA : binO .Add (.int 1) (.int (k : Nat)) = some (.int ((k + 1 : Nat) : Int)) := by
    show some (D.int (1 + (k : Int))) = _
    congr 2; omega
  have d8 := draw_ok (drawP p m) 8 (by omega) (by omega)
  have cT : cmpO .Eq (.int (i : Nat)) (.int 3) = some (.bl ((i : Int) == 3)) := by
    show (eqD (.int (i : Nat)) (.int 3)).map D.bl = _
    rw [eqD_int]; rfl
  have cZ : cmpO .Eq (.int (drawV (drawP p m) 8)) (.int 0) = some (.bl (drawV (drawP p m) 8 == 0)) := by
    show (eqD (.int (drawV (drawP p m) 8)) (.int 0)).map D.bl = _
    rw [eqD_int]; rfl
  cases h3 : ((i : Int) == 3) with
  | false =>
    rw [h3] at cT
    refine ⟨k + 1, drawP p m, by omega, by omega, fun rest => ?_⟩
    generalize hR : evSs false rest = RR
    simp [st1, st2, EI, ES, EV, EV2, EG, wipeE, fl, after_imm, setTg, s4, hm, dm, im, sA, cT, trb, hR]
  | true =>
    rw [h3] at cT
    cases hz : (drawV (drawP p m) 8 == 0) with
    | false =>
      rw [hz] at cZ
      refine ⟨k + 1, drawP (drawP p m) 8, by omega, by omega, fun rest => ?_⟩
      generalize hR : evSs false rest = RR
      simp [st1, st2, EI, ES, EV, EV2, EG, wipeE, fl, after_imm, setTg, s4, hm, dm, im, sA, cT, d8, cZ, trb, hR]
    | true =>
      rw [hz] at cZ
      refine ⟨40, drawP (drawP p m) 8, by omega, by omega, fun rest => ?_⟩
      generalize hR : evSs false rest = RR
      simp [st1, st2, EI, ES, EV, EV2, EG, wipeE, fl, after_imm, setTg, s4, hm, dm, im, sA, cT, d8, cZ, trb, hR]
theorem sB_ok (n : Nat) (h0 : 1 ≤ n) (hn : n ≤ 40) (p : PSt) : ∃ (ws : Ws) (p' : PSt), ws.length = n ∧ (∀ q ∈ ws, winOk q) ∧ ∀ rest, evSs false (.cons st3 (.cons st4 rest)) [some (D.scr ns, false), some (D.pool, false), some (.int (i : Nat), false), some (.int (n : Nat), false), fl y4, fl y5, fl y6, fl y7, x8] (some p) = evSs false rest [some (D.scr ns, false), some (D.pool, false), some (.int (i : Nat), false), some (.int (n : Nat), false), some (winsD ws, false), some (bookD ws, false), fl y6, fl y7, x8] (some p') := by
  obtain ⟨ws, p', e, hl, hw⟩ := book_windows_ok n hn p
  have eb := fun g => Book_init_ok ws (by omega) (by omega) hw g
  refine ⟨ws, p', hl, hw, fun rest => ?_⟩
  have iw : imm (winsD ws) = true := imm_winsD ws
  have a := fun b => aT (some (D.scr ns)) (some D.pool) (some (.int (i : Nat))) (some (.int (n : Nat))) (some (winsD ws)) y5 y6 y7 x8 b
  generalize hR : evSs false rest = RR
  generalize hB : bookD ws = BK at *
  generalize hW : winsD ws = WD at *
  simp only [fl, Option.map_some] at a
  simp [st3, st4, EI, ES, EV, EV2, EG, wipeE, fl, after_imm, a, setTg, e, iw, g_makeM, eb, noneD, hR]
theorem sC_ok (n : Nat) (ws : Ws) (h0 : 1 ≤ ws.length) (hn : ws.length ≤ 40) (p : PSt) : ∃ (r : List Nat) (p' : PSt), r.Perm (List.range ws.length) ∧ ∀ rest, evSs false (.cons st5 rest) [some (D.scr ns, false), some (D.pool, false), some (.int (i : Nat), false), some (.int (n : Nat), false), some (winsD ws, false), some (bookD ws, false), fl y6, fl y7, x8] (some p) = evSs false rest [some (D.scr ns, false), some (D.pool, false), some (.int (i : Nat), false), some (.int (n : Nat), false), some (winsD ws, false), some (bookD ws, false), some (rowD r, false), fl y7, x8] (some p') := by
  obtain ⟨r, p', hp, e⟩ := near_order_ok ws h0 (by omega) p
  refine ⟨r, p', hp, fun rest => ?_⟩
  have ir : imm (rowD r) = true := imms_row r
  generalize hR : evSs false rest = RR
  generalize rowD r = RD at *
  simp [st5, EI, ES, EV, EV2, EG, wipeE, fl, after_imm, setTg, e, ir, hR]
theorem sD_ok (n : Nat) (ws : Ws) (hn : ws.length ≤ 40) (r : List Nat) (hr : RowOk ws.length r) (hl : r.length = ws.length) (LS : List D) (hLS : LS = (sortW (allL ws r)).map wD) (p : PSt) : ∀ rest, evSs false (.cons st6 (.cons st7 rest)) [some (D.scr ns, false), some (D.pool, false), some (.int (i : Nat), false), some (.int (n : Nat), false), some (winsD ws, false), some (bookD ws, false), some (rowD r, false), fl y7, x8] (some p) = evSs false rest [some (D.scr ns, false), some (D.pool, false), some (.int (i : Nat), false), some (.int (n : Nat), false), some (winsD ws, false), some (bookD ws, false), some (rowD r, false), some (.lst LS, false), some (.lst LS, true)] (some p) := by
  intro rest
  have e := fun g => law_throws_ok ws r hr.lt (by omega) g
  have e2 := fun g => throwsN_ok ws r hr hl (by omega) g
  rw [throws_eq] at e
  rw [← hLS] at e e2
  have iL : imm (.lst LS) = false := rfl
  have k1 : kids (.lst LS) = true := by rw [hLS]; exact imms_w _
  have a := fun b => aT (some (D.scr ns)) (some D.pool) (some (.int (i : Nat))) (some (.int (n : Nat))) (some (winsD ws)) (some (bookD ws)) (some (rowD r)) y7 x8 b
  generalize hR : evSs false rest = RR
  generalize bookD ws = BK at *
  generalize winsD ws = WD at *
  generalize rowD r = RD at *
  simp only [fl, Option.map_some] at a
  simp [st6, st7, EI, ES, EV, EV2, EG, ERF, wipeE, fl, after_imm, a, setTg, e, e2, k1, hR]
theorem sE_ok (n : Nat) (ws : Ws) (hn : ws.length ≤ 40) (r : List Nat) (hr : RowOk ws.length r) (hl : r.length = ws.length) (LS : List D) (hLS : LS = (sortW (allL ws r)).map wD) (p : PSt) : ∀ rest, evSs false (.cons st8 (.cons st9 rest)) [some (D.scr ns, false), some (D.pool, false), some (.int (i : Nat), false), some (.int (n : Nat), false), some (winsD ws, false), some (bookD ws, false), some (rowD r, false), some (.lst LS, false), some (.lst LS, true)] (some p) = evSs false rest [some (D.scr ns, false), some (D.pool, false), some (.int (i : Nat), false), some (.int (n : Nat), false), some (winsD ws, false), some (bookD ws, false), some (rowD r, false), some (.lst LS, false), some (.lst LS, true)] (some p) := by
  intro rest
  have trb : ∀ b, tru (.bl b) = some b := fun _ => rfl
  have hsm : ∀ q ∈ sortW (allL ws r), SmW q := fun q hq => by
    rw [← throws_eq] at hq
    exact law_small ws r (fun k hk => by have := hr.lt k hk; omega) q ((sortW_perm _).mem_iff.mp hq)
  have hlen : (sortW (allL ws r)).length ≤ 300000 := by
    rw [← throws_eq, (sortW_perm _).length_eq]
    have := law_len40 ws r (by omega)
    omega
  obtain ⟨x, hx⟩ := rep_ws _ hsm hlen
  have hne : cmpO .NotEq (.lst LS) (.lst LS) = some (.bl false) := by
    show ((eqD (.lst LS) (.lst LS)).map (!·)).map D.bl = _
    rw [hLS, eq_self (Sh_ws _ hsm) (by omega)]; rfl
  have hnx : cmpO .NotEq (.str x) (.str x) = some (.bl false) := by
    show ((some (x == x)).map (!·)).map D.bl = _
    rw [beq_self_eq_true]; rfl
  have e2 : isiF [.lst LS, .con (.ty "list")] = some (.bl true) := rfl
  have e3 := fun g => is_one_ok ws r hr hl (by omega) g
  have hL : lenF (.lst LS) = some (.int ((sortW (allL ws r)).length : Nat)) := by rw [hLS]; unfold lenF; simp
  rw [← hLS] at hx
  generalize (sortW (allL ws r)).length = m at *
  have c : cmpO .Eq (.int (m : Nat)) (.int 0) = some (.bl (decide (m = 0))) := by
    show (eqD (.int (m : Nat)) (.int 0)).map D.bl = _
    rw [eqD_int]
    simp only [Option.map_some]
    congr 2
    by_cases h : m = 0
    · subst h; rfl
    · have : ((m : Int) == 0) = false := by rw [beq_eq_false_iff_ne]; omega
      rw [this]; simp [h]
  have c1 := law_flag_ok (decide (m = 0)) (decide (m = 0)) (some p)
  rw [beq_self_eq_true] at c1
  clear hLS hsm hlen
  generalize hR : evSs false rest = RR
  generalize bookD ws = BK at *
  generalize winsD ws = WD at *
  generalize rowD r = RD at *
  generalize decide (m = 0) = bb at *
  simp [st8, st9, EI, ES, EV, EV2, EV3, EG, EG2, wipeE, fl, trb, e2, hne, hx, hnx, e3, biO, one1, hL, c, c1, hR]
theorem sF_ok (n : Nat) (ws : Ws) (hn : ws.length ≤ 40) (r : List Nat) (hr : RowOk ws.length r) (hl : r.length = ws.length) (LS : List D) (hLS : LS = (sortW (allL ws r)).map wD) (p : PSt) : evSs false (.cons st10 (.cons st11 .nil)) [some (D.scr ns, false), some (D.pool, false), some (.int (i : Nat), false), some (.int (n : Nat), false), some (winsD ws, false), some (bookD ws, false), some (rowD r, false), some (.lst LS, false), some (.lst LS, true)] (some p) = .ok (.nx [some (D.scr ns, false), some (D.pool, false), some (.int (i : Nat), false), some (.int (n : Nat), false), some (winsD ws, false), some (bookD ws, false), some (rowD r, false), some (.lst LS, false), some (.lst (LS ++ [.non]), true)]) (some p) := by
  have trb : ∀ b, tru (.bl b) = some b := fun _ => rfl
  have hsm : ∀ q ∈ sortW (allL ws r), SmW q := fun q hq => by
    rw [← throws_eq] at hq
    exact law_small ws r (fun k hk => by have := hr.lt k hk; omega) q ((sortW_perm _).mem_iff.mp hq)
  have hlen : LS.length < sizeLine := by
    rw [hLS, List.length_map, ← throws_eq, (sortW_perm _).length_eq, sizeLine_eq]
    have := law_len40 ws r (by omega)
    omega
  have hne : cmpO .NotEq (.lst LS) (.lst LS) = some (.bl false) := by
    show ((eqD (.lst LS) (.lst LS)).map (!·)).map D.bl = _
    rw [hLS, eq_self (Sh_ws _ hsm) (by omega)]; rfl
  have e := fun g => throws_ok ws r hr hl (by omega) g
  rw [← hLS] at e
  have im : imm .non = true := rfl
  clear hLS hsm
  generalize bookD ws = BK at *
  generalize winsD ws = WD at *
  generalize rowD r = RD at *
  simp [st10, st11, EI, ES, EV, EV2, EG, wipeE, fl, after_imm, trb, s_app, ownL, im, hlen, e, hne]
end
theorem body_ok (ns : List Int) (i : Nat) (hi : i < 4) (y3 y4 y5 y6 y7 : Option D) (x8 : Option (D × Bool)) (p : PSt) : ∃ (z3 z4 z5 z6 z7 : Option D) (u8 : Option (D × Bool)) (p' : PSt),
    evSs false ir_b [some (D.scr ns, false), some (D.pool, false), some (.int (i : Nat), false), fl y3, fl y4, fl y5, fl y6, fl y7, x8] (some p) = .ok (.nx [some (D.scr ns, false), some (D.pool, false), some (.int (i : Nat), false), fl z3, fl z4, fl z5, fl z6, fl z7, u8]) (some p') := by
  obtain ⟨n, p1, n0, n1, e1⟩ := sA_ok ns i y3 y4 y5 y6 y7 x8 hi p
  obtain ⟨ws, p2, hl, hw, e2⟩ := sB_ok ns i y4 y5 y6 y7 x8 n n0 n1 p1
  obtain ⟨r, p3, hp, e3⟩ := sC_ok ns i y6 y7 x8 n ws (by omega) (by omega) p2
  have hr : RowOk ws.length r := ⟨fun k hk => List.mem_range.mp (hp.subset hk), hp.nodup_iff.mpr List.nodup_range⟩
  have hrl : r.length = ws.length := by rw [hp.length_eq, List.length_range]
  have e4 := sD_ok ns i y7 x8 n ws (by omega) r hr hrl _ rfl p3
  have e5 := sE_ok ns i n ws (by omega) r hr hrl _ rfl p3
  have e6 := sF_ok ns i n ws (by omega) r hr hrl _ rfl p3
  refine ⟨some (.int (n : Nat)), some (winsD ws), some (bookD ws), some (rowD r), some (.lst ((sortW (allL ws r)).map wD)), some (.lst ((sortW (allL ws r)).map wD ++ [.non]), true), p3, ?_⟩
  unfold ir_b
  rw [e1, e2, e3, e4, e5, e6]
  rfl
theorem law_ok (ns : List Int) (hns : ns.length ≤ 63) : ∃ g, s_law [.scr ns] none = .ok (.bl true) g := by
  obtain ⟨p0, hp⟩ := pool_ok ns hns
  have c4 : rng1O [.int 4] = some ((List.range 4).map fun i => D.int (i : Nat)) := rng1_nat 4 (by decide)
  obtain ⟨env', g', e1, y2, y3, y4, y5, y6, y7, x8, q, he, hg⟩ := forGo_inv (t := .one 2) (b := evSs false ir_b) (ds := (List.range 4).map fun i => D.int (i : Nat))
    (fun i env g2 => ∃ (y2 y3 y4 y5 y6 y7 : Option D) (x8 : Option (D × Bool)) (q : PSt), env = [some (D.scr ns, false), some (D.pool, false), fl y2, fl y3, fl y4, fl y5, fl y6, fl y7, x8] ∧ g2 = some q)
    (env := [some (D.scr ns, false), some (D.pool, false), none, none, none, none, none, none, none]) (g := some p0) ⟨none, none, none, none, none, none, none, p0, rfl, rfl⟩
    fun i hi env g2 ⟨y2, y3, y4, y5, y6, y7, x8, q, he, hg⟩ => by
      subst he hg
      have hi' : i < 4 := by simpa using hi
      obtain ⟨z3, z4, z5, z6, z7, u8, q', e⟩ := body_ok ns i hi' y3 y4 y5 y6 y7 x8 q
      exact ⟨[some (D.scr ns, false), some (D.pool, false), some (.int (i : Nat), false), fl y3, fl y4, fl y5, fl y6, fl y7, x8], by simp [setTg], _, _, .inl e, some (.int (i : Nat)), z3, z4, z5, z6, z7, u8, q', rfl, rfl⟩
  subst he hg
  refine ⟨some q, ?_⟩
  have a0 : ∀ b : Bool, after false [8] b [some (D.scr ns, false), none, none, none, none, none, none, none, none] = some [some (D.scr ns, false), none, none, none, none, none, none, none, none] := fun b => after_fl [8] b [some (D.scr ns), none, none, none, none, none, none, none, none]
  have aL := fun b => aT (some (D.scr ns)) (some D.pool) y2 y3 y4 y5 y6 y7 x8 b
  generalize (List.range 4).map (fun i => D.int (i : Nat)) = L at c4 e1
  generalize hB : ir_b = B at e1
  have key : evSs false (.cons (.set [8] (.one 1) (.call "_law_pool" 1 Pg.s__law_pool (.cons (.var 0) .nil))) (.cons (.for [8] (.one 2) (.rng1 (.cst (.int 4))) B) (.cons (.ret [8] (.cst (.bl true))) .nil))) [some (D.scr ns, false), none, none, none, none, none, none, none, none] none = .ok (.rt (.bl true) [some (D.scr ns, false), some (D.pool, false), fl y2, fl y3, fl y4, fl y5, fl y6, fl y7, x8]) (some q) := by
    simp only [fl, Option.map_some] at e1 aL
    simp [EI, ES, EV, EV2, EG, wipeE, fl, a0, setTg, hp, isRng, c4, e1, aL]
  show endM (evSs false ir_law [some (D.scr ns, false), none, none, none, none, none, none, none, none] none) = _
  rw [ir_law_eq, hB, key]
  rfl
end K37
end
theorem PySem.Challenge.cw_bymiddles_k37_whole_throws_by_all_threes_holds : PySem.Challenge.rw_bymiddles_k37_whole_throws_by_all_threes.Holds := by
  exact K37.holds_of K37.law_ok
