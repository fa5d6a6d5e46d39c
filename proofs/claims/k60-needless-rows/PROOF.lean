import PyProof.Rows.All
import Wide.All
import OpenK.AllK
import Wide.FinOn
import HandS.ForMost
import HandS.ForExc
import HandS.TupMul
import HandS.TupAny
import HandS.Iter
import KE.GoesMore
import HandS.Flow
import HandS.IsInst
import HandS.Wide
import HandS.TupLe
import HandS.CallSlots
import PyProof.Rows.IntBool
import HandS.SortInts
import HandS.Sort
import HandS.Deep
import HandS.More
import HandS.Zip
import HandS.Conv
import HandS.Ends
import HandS.EndBits
import HandS.Style
import HandS.SortOrd
import KE.KRevSl
import HandS.OwnEq
import HandS.DictComp
import HandS.TryOnly
import PyProof.InstEq
import HandS.ExcIs
import HandS.SetFor
import PyProof.Rows.CountFlat
import HandS.NamedTupSort
import HandS.TupSets
import KE.SortData
import KE.DataMinMax
import HandS.Strs
import PyProof.PureInt
import PySem.Challenge.RW_takenover_k60_whole_needless_rows
set_option Elab.async false
set_option linter.all false
set_option maxRecDepth 100000
set_option maxHeartbeats 4000000
namespace L2
open PySem PySem.Spec PyProof.Rows
theorem tk_mulSame (l : Addr) (items : Array Value) (n : Nat) (dd : Option Addr) (sl : Array (Option Value)) (x : Int) (u : Tok) (c0 : (decide (x < -(2 ^ 63)) || decide (x ≥ 2 ^ 63)) = false) (c1 : (items.isEmpty || x == 1) = true) :
    Meets (Builtin.«tuple.__mul__» ⟨[.ref l, .int x u], []⟩) (fun _ R s => s.heap.get? l = some { cls := .type "tuple", dict := dd, data := .seq items n, slots := sl } ∧ R (.ok (.ret (Value.ref l))) s) :=
  .of_wp fun prog w A R s h => by
    obtain ⟨hp, g, d, tk, os⟩ := s
    obtain ⟨hl, h⟩ := h
    have f1 := AutoSeq1.idx_int
    wp_walk using wpAny_loadPart' hl
    repeat (first
      | (refine wpAny_ite_false (decide_eq_false (by rw [c0]; exact Bool.false_ne_true)) ?_; wp_walk using wpAny_loadPart' hl)
      | (refine wpAny_ite_true (decide_eq_true (by rw [c1])) ?_; wp_walk using wpAny_loadPart' hl))
    exact ⟨_, rfl, h⟩
theorem tk_mulNone (l : Addr) (items : Array Value) (n : Nat) (dd : Option Addr) (sl : Array (Option Value)) (x : Int) (u : Tok) (c0 : (decide (x < -(2 ^ 63)) || decide (x ≥ 2 ^ 63)) = false) (c1 : (items.isEmpty || x == 1) = false) (c2 : (decide (x ≤ 0) || items.isEmpty) = true) :
    Meets (Builtin.«tuple.__mul__» ⟨[.ref l, .int x u], []⟩) (fun _ R s => s.heap.get? l = some { cls := .type "tuple", dict := dd, data := .seq items n, slots := sl } ∧
      R (.ok (.ret (Value.ref s.heap.objs.size))) { s with heap := s.heap.push { cls := Value.type "tuple", data := Data.seq #[] }, toks := s.toks }) :=
  .of_wp fun prog w A R s h => by
    obtain ⟨hp, g, d, tk, os⟩ := s
    obtain ⟨hl, h⟩ := h
    have f1 := AutoSeq1.idx_int
    wp_walk using wpAny_loadPart' hl
    repeat (first
      | (refine wpAny_ite_false (decide_eq_false (by rw [c0]; exact Bool.false_ne_true)) ?_; wp_walk using wpAny_loadPart' hl)
      | (refine wpAny_ite_false (decide_eq_false (by rw [c1]; exact Bool.false_ne_true)) ?_; wp_walk using wpAny_loadPart' hl)
      | (refine wpAny_ite_true (decide_eq_true (by rw [c2])) ?_; wp_walk using wpAny_loadPart' hl))
    exact ⟨_, rfl, h⟩
/-- t * k, any k up to 1000 -/
def rRepA (K : PySem.W.Frag) : R2 := fun x y H Q => ∃ l k xs, x = .ref l ∧ y = .int k ∧ SqT K H l xs ∧ -1000000 ≤ k ∧ k ≤ 1000 ∧ xs.length ≤ 1000 ∧
  (xs = [] ∨ k = 1 → Q (.ref l) H) ∧ (xs ≠ [] → k ≠ 1 → ∀ p, H p = none → Q (.ref p) (upd H p (.tup (List.replicate k.toNat xs).flatten)))
theorem op_repA {X : Cx} : OpR X (binaryOp .Mult) (rRepA X.K) := by
  intro pins s σ H x y v u Q I rx ry h
  obtain ⟨l, k, xs, rfl, rfl, hT, h1, h2, hz, q1, q2⟩ := h
  by_cases hbig : xs ≠ [] ∧ 2 ≤ k
  · exact op_repT pins s σ H _ _ v u Q I rx ry ⟨l, k, xs, rfl, rfl, hT, hbig.1, hbig.2, h2, hz, q2 hbig.1 (by omega)⟩
  cases rx
  obtain ⟨t, rfl⟩ := ry
  obtain ⟨its, r, ⟨⟨cls, dd, data, sl⟩, ho, hc, n, hd⟩, hs⟩ := I.tuple hT
  simp only at hc hd
  subst hc hd
  have hle : its.length = xs.length := r.length.symm
  have c0 : (decide (k < -(2 ^ 63)) || decide (k ≥ 2 ^ 63)) = false := by
    rw [decide_eq_false (by omega), decide_eq_false (by omega)] <;> rfl
  have emp : its.toArray.isEmpty = decide (xs = []) := by
    cases its with
    | nil => cases r; rfl
    | cons a b => cases r; rfl
  by_cases hsame : xs = [] ∨ k = 1
  · have c1 : (its.toArray.isEmpty || k == 1) = true := by
      rw [emp]
      rcases hsame with h | h
      · simp [h]
      · simp [h]
    exact wpAny_binaryOp_repeat_ref (T := "tuple") (U := "int") (by decide) ⟨_, ho, rfl⟩ (fun s' => typeIs_int s' k t) noFill_tuple_mul F.fills_int_mul F.slot_int_rmul repeat_tuple F.slot_int_index.lookup
      (call_meets F.slot_int_rmul (typeIs_int s k t) F.entry_int_rmul (F.args_int_rmul_2 _ _) (int_rmul_tuple k t l its.toArray n dd sl)
        ⟨ho, rfl, ⟨_, ho, rfl⟩, call_meets F.slot_tuple_mul ⟨_, ho, rfl⟩ F.entry_tuple_mul (F.args_tuple_mul_2 _ _) (tk_mulSame l its.toArray n dd sl k t c0 c1) ⟨ho, ⟨.ref l, H, I, rfl, q1 hsame⟩⟩⟩)
  · have hne : xs ≠ [] := fun e => hsame (.inl e)
    have hk1 : k ≠ 1 := fun e => hsame (.inr e)
    have hk0 : k ≤ 0 := by
      have : ¬ 2 ≤ k := fun e => hbig ⟨hne, e⟩
      omega
    have c1 : (its.toArray.isEmpty || k == 1) = false := by
      rw [emp, decide_eq_false hne, Bool.false_or]
      exact beq_eq_false_iff_ne.mpr hk1
    have c2 : (decide (k ≤ 0) || its.toArray.isEmpty) = true := by rw [decide_eq_true hk0]; rfl
    refine wpAny_binaryOp_repeat_ref (T := "tuple") (U := "int") (by decide) ⟨_, ho, rfl⟩ (fun s' => typeIs_int s' k t) noFill_tuple_mul F.fills_int_mul F.slot_int_rmul repeat_tuple F.slot_int_index.lookup
      (call_meets F.slot_int_rmul (typeIs_int s k t) F.entry_int_rmul (F.args_int_rmul_2 _ _) (int_rmul_tuple k t l its.toArray n dd sl)
        ⟨ho, rfl, ⟨_, ho, rfl⟩, call_meets F.slot_tuple_mul ⟨_, ho, rfl⟩ F.entry_tuple_mul (F.args_tuple_mul_2 _ _) (tk_mulNone l its.toArray n dd sl k t c0 c1 c2) ⟨ho, ?_⟩⟩)
    have hk : k.toNat = 0 := by omega
    have q := q2 hne hk1 s.heap.objs.size (I.hok.fresh (Nat.le_refl _))
    rw [hk] at q
    refine ⟨.ref s.heap.objs.size, _, I.laid (t' := s.toks) (o := .tup []) (fun b ob q => Heap.get?_push_of_some _ q) (Nat.le_refl _) ?_, rfl, q⟩
    exact ⟨Nat.zero_le _, [], .nil, IsTup.new _ _⟩

/-- X(), X an own exception class without own __init__ -/
theorem pmk_ownN {X : Cx} {pos : Pos} {C : Addr} {bmB : List Value} {B newId initId : String} {x : Str} {p : Pos} (F : ExcBaseFacts B newId initId bmB) (q : PySem.W.excIn X.K C bmB newId = true) (gC : X.mg x = some (.ref C))
    (kC : PySem.W.keepIn X.K (.ref C) = true) (r : Raises X (.ref C)) (hg : Gl X x) (hdb : (x == ("__debug__" : Str)) = false := by decide) :
    PMk X (.Call (.Name x p) [] [] pos) (fun σ H Q => Q (.ref C) none H) := by
  intro pins s σ H Q I h
  refine wpAny_Call_Name_kw (ld_glob I hg gC ?_ hdb)
  refine PySem.W.callWith_K0 I.kIn kC ?_
  show wpAny _ _ (call (.ref C) []) _ _ _
  obtain ⟨bm, N, nm, qn, bs, hdct, sn, sub, ab, col, dd, k0, k1, k2, k3, k5, mN, hC, hN, hni, T⟩ := exc_obj I.kIn q
  refine wpAny_call_exc_subT F T hC hN hni (fun h' e hm => ?_) (by show 0 ≤ sizeLine; exact Nat.zero_le _)
  exact mk_of I hm r h (I.hok.gone hm.new)
end L2

set_option Elab.async false
set_option linter.all false
set_option maxRecDepth 100000
set_option maxHeartbeats 4000000
namespace PySem
open Sem (wp)
open AutoSeq1 (wpAny_loadPart')
theorem tk_enum_newT (l : Addr) (items : Array Value) (n : Nat) (dct : Option Addr) (sl : Array (Option Value)) :
    Meets (Builtin.«enumerate.__new__» ⟨[.type "enumerate", .ref l], []⟩) (fun _ R s => s.heap.get? l = some { cls := .type "tuple", dict := dct, data := .seq items n, slots := sl } ∧
      R (.ok (.ret (.ref (s.heap.push { cls := .type "tuple_iterator", data := .fields #[.ref l, .int 0 0] }).objs.size)))
        { s with heap := (s.heap.push { cls := .type "tuple_iterator", data := .fields #[.ref l, .int 0 0] }).push { cls := .type "enumerate", data := .fields #[.none, .bool false, .ref s.heap.objs.size, rawInt 0, .none, .none] } }) :=
  .of_wp fun prog w A R s h => by
    obtain ⟨hp, g, d, tk, os⟩ := s; obtain ⟨hl, h⟩ := h
    have hsub := sub_enumerate
    have hL : Heap.IsTuple (Shared.heap ⟨hp, g, d, tk, os⟩) l items := ⟨_, hl, rfl, n, rfl⟩
    wp_walk using wpAny_loadPart' hl
    refine wpAny_stack_any fun st => wpAny_pure ?_
    split
    · rename_i c _ _ _ _ _
      cases (c == Value.type "enumerate")
      · wp_walk using wpAny_loadPart' hl, wpAny_pyIter_tuple hL
        exact ⟨_, rfl, h⟩
      · wp_walk using wpAny_loadPart' hl, wpAny_pyIter_tuple hL
        exact ⟨_, rfl, h⟩
    · wp_walk using wpAny_loadPart' hl, wpAny_pyIter_tuple hL
      exact ⟨_, rfl, h⟩
section
variable {prog : Program} {w : World} {A : Around} {E : Value → Shared → Prop} {s : Shared}
theorem tk_call_enumT {l : Addr} {items : Array Value} {Q : Value → Shared → Prop} (hL : s.heap.IsTuple l items)
    (h : ∀ h', IsEnum h' (s.heap.objs.size + 1) s.heap.objs.size 0 .none → h'.IsTupleIter s.heap.objs.size l 0 → h'.objs.size = s.heap.objs.size + 2 →
      (∀ b o, s.heap.get? b = some o → h'.get? b = some o) → Q (.ref (s.heap.objs.size + 1)) { s with heap := h' }) :
    wpAny (model prog w) A (call (.type "enumerate") [.ref l]) Q E s := by
  obtain ⟨⟨c, dct, dt, sl⟩, hl, hc, n, hd⟩ := hL
  replace hc : c = .type "tuple" := hc
  replace hd : dt = .seq items n := hd
  subst hc hd
  refine callType_new F.called_enumerate (by decide) (F.typeCall_enumerate_1 _) (F.newCall_enumerate_1 _) (fun obj => F.args_object_init_2 obj _) F.entry_enumerate_new
    (tk_enum_newT l items n dct sl) ⟨hl, ?_⟩
  have hz : (s.heap.push { cls := .type "tuple_iterator", data := .fields #[.ref l, .int 0 0] }).objs.size = s.heap.objs.size + 1 := Heap.size_push ..
  show _ ∧ _
  rw [hz]
  have he : IsEnum ((s.heap.push { cls := .type "tuple_iterator", data := .fields #[.ref l, .int 0 0] }).push
      { cls := .type "enumerate", data := .fields #[.none, .bool false, .ref s.heap.objs.size, rawInt 0, .none, .none] }) (s.heap.objs.size + 1) s.heap.objs.size 0 .none := by
    have := Heap.get?_push_size (s.heap.push { cls := .type "tuple_iterator", data := .fields #[.ref l, .int 0 0] })
      (o := { cls := .type "enumerate", data := .fields #[.none, .bool false, .ref s.heap.objs.size, rawInt 0, .none, .none] }) rfl
    rw [hz] at this; exact this
  refine ⟨⟨_, he, rfl⟩, h _ he ⟨_, Heap.get?_push_of_some _ (Heap.get?_push_size _ rfl), rfl, rfl⟩ (by rw [Heap.size_push, hz]) fun b o x => Heap.get?_push_of_some _ (Heap.get?_push_of_some _ x)⟩
end
end PySem
namespace L2
open PySem PySem.Spec PyProof.Rows
def IteT (K : PySem.W.Frag) (a : Addr) : It :=
  ⟨fun i H => ∃ (xs : List V) (x : V), SqT K H a xs ∧ xs[i]? = some x, fun i H v H' => ∃ T x, v = .ref T ∧ H T = none ∧ H' = upd H T (.tup [.int (i : Nat), x]) ∧ ∀ xs, SqT K H a xs → xs[i]? = some x, fun i H => ∃ xs : List V, SqT K H a xs ∧ xs.length ≤ i⟩
theorem turn_enumT {P : Program} {w : World} {K : PySem.W.Frag} {elts : List Expr} {kk : Nat} {tpos : Pos} (a e it : Addr) :
    Turn P w K (.Tuple elts kk tpos) (IteT K a) [e, it] e (fun i h => (∃ old, IsEnum h e it ((i : Nat) : Int) old) ∧ h.IsTupleIter it a i ∧ e ≠ it) where
  mem := by simp
  obj := fun i h st b hb => by
    obtain ⟨⟨old, he⟩, ⟨o, ho, hc, hd⟩, _⟩ := st
    have e' : b = e ∨ b = it := by simpa using hb
    rcases e' with z | z
    · rw [z]; exact ⟨_, he, fun v q => nomatch q⟩
    · rw [z]; exact ⟨o, ho, fun v q => by rw [hd] at q; cases q⟩
  keep := fun i h h' st k => let ⟨⟨old, he⟩, hi, hne⟩ := st; ⟨⟨old, k e (by simp) _ he⟩, hi.at fun o q => k it (by simp) o q, hne⟩
  item := by
    intro X hP hw hK hc i pins s σ H E I hf st hg
    subst hP hw hK
    obtain ⟨⟨old, he⟩, hit, hne⟩ := st
    obtain ⟨xs, x, hq, hx⟩ := hg
    obtain ⟨its, rv, p, hz⟩ := I.tuple hq
    obtain ⟨u, hu, ru⟩ := rv.get hx
    have hel : e < s.heap.objs.size := Heap.lt_size he
    have hil : it < s.heap.objs.size := by obtain ⟨_, q, _⟩ := hit; exact Heap.lt_size q
    have hil' : i < its.toArray.size := by simpa using (List.getElem?_eq_some_iff.mp hu).1
    have pT : s.heap.IsTuple a its.toArray := p
    have hait : a ≠ it := fun z => by
      obtain ⟨o, q, c, d⟩ := hit
      obtain ⟨o2, q2, c2, _⟩ := p
      rw [z, q] at q2; cases q2
      rw [c] at c2; simp at c2
    have hae : a ≠ e := fun z => by
      obtain ⟨o2, q2, c2, _⟩ := p
      have q := he
      unfold IsEnum at q
      rw [z, q] at q2; cases q2
      simp at c2
    refine wpAny_pyNext_enum_itemD (Draws.tuple (A := X.A.in1) (I.ok.hd hc) it a hait its.toArray) he ⟨hit, pT⟩ hil' hne (by simp [hne, Ne.symm hae]) fun y h' tk hy ho hst' hT hsz hk => ?_
    have ey : y = u := by
      have : its.toArray[i]? = some u := by simpa using hu
      rw [this] at hy; exact (Option.some.inj hy).symm
    subst ey
    refine ⟨_, rfl, wpAny_letOwnedTupleGo_enum (s := { s with heap := h', toks := tk + 1 }) ho fun h'' he' sb => ?_⟩
    have hT2 : h''.get? s.heap.objs.size = some { cls := .type "tuple", data := .seq #[.int i tk, y] } := (sb.2 _ (Nat.ne_of_gt hel)).trans hT
    have new : ObjOk X.prog X.w (upd H s.heap.objs.size (.tup [.int (i : Nat), x])) h'' s.heap.objs.size (.tup [.int (i : Nat), x]) :=
      ⟨by show 2 ≤ sizeLine; decide, [.int i tk, y], .cons ⟨_, rfl⟩ (.cons ru .nil), ⟨_, hT2, rfl, _, rfl⟩⟩
    have I1 : Inv X pins σ (upd H s.heap.objs.size (.tup [.int (i : Nat), x])) { s with heap := h'', toks := tk + 1 } :=
      I.turnedNew (ch := [e, it]) (fun b ob hb q => (sb.2 b (fun z => hb (by simp [z]))).trans (hk b ob (fun z => hb (by simp [z])) (fun z => hb (by simp [z])) q)) hf (Nat.le_refl _) new
    refine ⟨.ref s.heap.objs.size, _, I1, rfl, ⟨_, x, rfl, I.hok.fresh (Nat.le_refl _), rfl, fun ys hy => by rw [I.tuple_inj hy hq]; exact hx⟩, ⟨⟨y, ?_⟩, hst'.1.at fun o q => (sb.2 it (Ne.symm hne)).trans q, hne⟩, fun b hb => ?_⟩
    · have e1 : ((i + 1 : Nat) : Int) = (i : Int) + 1 := by omega
      rw [e1]; exact he'
    · have hb' : b < s.heap.objs.size := by
        have e' : b = e ∨ b = it := by simpa using hb
        rcases e' with z | z
        · rw [z]; exact hel
        · rw [z]; exact hil
      rw [upd_ne (Nat.ne_of_lt hb')]
      exact (hf b hb).1
  done := by
    intro X hP hw hK hc i pins s σ H E I hf st hg
    subst hP hw hK
    obtain ⟨⟨old, he⟩, hit, hne⟩ := st
    obtain ⟨xs, hq, hx⟩ := hg
    obtain ⟨its, rv, p, hz⟩ := I.tuple hq
    obtain ⟨f0, f1, f2, f3, f4, f5⟩ := hf it (by simp)
    have hl := rv.length
    have pT : s.heap.IsTuple a its.toArray := p
    have hT : s.TypeIs (.ref e) "enumerate" := ⟨_, he, rfl⟩
    unfold pyNext
    refine wpAny_bind (wpAny_attempt (wpAny_callSpecial?_slot (name := Str.ofString "__next__") hT F.slot_enumerate_next
      (wpAny_call_entry F.slot_enumerate_next hT F.entry_enumerate_next ?_ (F.args_enumerate_next_1 _))))
    show wpAny _ _ (field (.ref e) 2 >>= _) _ _ _
    refine wpAny_bind (wpAny_field he rfl (x := .ref it) rfl ?_)
    refine wpAny_bind (wpAny_nextOf_tuple_end (I.ok.hd hc) hit pT (by simp; omega) fun h' x he' hx' => ?_)
    obtain ⟨o, ho, hcl⟩ := hx'
    refine wpAny_bind (wpAny_isInstance (T := "StopIteration") (b := true) ⟨o, ho, hcl⟩ isSubtype_stop ?_)
    exact wpAny_pure ⟨rfl, I.turned (t' := s.toks) (fun b o hb q => he' b o hb q) f0 f1 f3 f4 f5⟩
  self := fun A i s Q E st h => let ⟨⟨_, he⟩, _⟩ := st; wpAny_pyIter_enum he h
def iEnumA (K : PySem.W.Frag) (ta : TA) : TI := fun σ H R => ta σ H fun vs H1 => ∃ a xs, vs = [.ref a] ∧ ((SqL K H1 a xs ∧ R (Ite K a) H1) ∨ (SqT K H1 a xs ∧ R (IteT K a) H1))
theorem pi_enumA {X : Cx} {e : Expr} {ta : TA} {p pos tpos : Pos} {elts : List Expr} {kk : Nat} (hg : Gl X "enumerate") (hm : X.mg "enumerate" = none) (ha : PA X [e] ta) (hs : starEach [e] X.env = [(false, eval e X.env)] := by rfl) :
    PI X (.Tuple elts kk tpos) (.Call (.Name "enumerate" p) [e] [] pos) (iEnumA X.K ta) := by
  refine ⟨fun pins s σ H R I h => ?_⟩
  refine Call_ (ld_blt I hg hm boot_enumerate (PyProof.Rows.callWith_type1 (thn (ha.run pos pins s σ H _ I h) fun us s1 ⟨vs, H1, I1, r1, q1⟩ => ?_) hs rfl))
  obtain ⟨a, xs, ex, q⟩ := q1
  subst ex
  cases r1 with
  | cons r rr =>
    cases rr
    cases r
    have foot : ∀ {h' : Heap} (I2 : Inv X pins σ H1 { s1 with heap := h' }) (b : Addr), b ∈ [s1.heap.objs.size + 1, s1.heap.objs.size] → FpOk X pins H1 b := fun I2 b hb => by
      have hle : s1.heap.objs.size ≤ b := by
        have e' : b = s1.heap.objs.size + 1 ∨ b = s1.heap.objs.size := by simpa using hb
        rcases e' with z | z
        · rw [z]; exact Nat.le_succ _
        · rw [z]; exact Nat.le_refl _
      exact I1.fpOk hle (I1.hok.fresh hle)
    rcases q with ⟨hq, q⟩ | ⟨hq, q⟩
    · obtain ⟨its, rv, p', hz⟩ := I1.list hq
      refine call_enumerate_list p'.isList fun h' he hit hsz hk => wpAny_pyIter_enum he ?_
      have I2 : Inv X pins σ H1 { s1 with heap := h' } := I1.kept (t' := s1.toks) hk
      exact ⟨s1.heap.objs.size + 1, [s1.heap.objs.size + 1, s1.heap.objs.size], _, _, H1, rfl, I2, turn_enum a (s1.heap.objs.size + 1) s1.heap.objs.size, ⟨⟨.none, he⟩, hit, Nat.succ_ne_self _⟩, foot I2, q⟩
    · obtain ⟨its, rv, p', hz⟩ := I1.tuple hq
      refine tk_call_enumT (show s1.heap.IsTuple a its.toArray from p') fun h' he hit hsz hk => wpAny_pyIter_enum he ?_
      have I2 : Inv X pins σ H1 { s1 with heap := h' } := I1.kept (t' := s1.toks) hk
      exact ⟨s1.heap.objs.size + 1, [s1.heap.objs.size + 1, s1.heap.objs.size], _, _, H1, rfl, I2, turn_enumT a (s1.heap.objs.size + 1) s1.heap.objs.size, ⟨⟨.none, he⟩, hit, Nat.succ_ne_self _⟩, foot I2, q⟩
end L2

set_option Elab.async false
set_option linter.all false
set_option maxRecDepth 100000
set_option maxHeartbeats 4000000
namespace TK
open PySem PySem.Spec
open PyProof.Rows hiding St
open L2

/-! ## plain data, a plain store -/
theorem hideE {α : Type} (x : α) : ∃ y, y = x := ⟨x, rfl⟩
/-- a term that no check by computing looks into -/
noncomputable def hid {α : Type} (x : α) : α := Classical.choose (hideE x)
theorem hid_eq {α : Type} (x : α) : hid x = x := Classical.choose_spec (hideE x)
inductive D where
  | non | bl (b : Bool) | int (i : Int) | str (x : Str) | tup (xs : List D) | ref (n : Nat) | cls (x : Str)
inductive AO where
  | lst (xs : List D) | rol (xs : List D) | ins (c : Str) (fs : List (Str × D)) | dct (kvs : List (D × D)) | dcT (kvs : List (D × D)) | rdK (kvs : List (D × D)) | rdT (kvs : List (D × D))
abbrev Store := List AO
abbrev AEnv := List (Option D)
structure EX where
  cls : Str
  fs : List (Str × D)
inductive R (α : Type) where
  | ok (a : α) (st : Store) | exc (x : EX) (st : Store) | bad
namespace R
def bind {α β : Type} (r : R α) (g : α → Store → R β) : R β := match r with
  | .ok a st => g a st
  | .exc x st => .exc x st
  | .bad => .bad
@[simp] theorem bind_ok {α β : Type} (a : α) (st : Store) (g : α → Store → R β) : (R.ok a st).bind g = g a st := rfl
@[simp] theorem bind_exc {α β : Type} (x : EX) (st : Store) (g : α → Store → R β) : (R.exc x st : R α).bind g = .exc x st := rfl
@[simp] theorem bind_bad {α β : Type} (g : α → Store → R β) : (R.bad : R α).bind g = .bad := rfl
end R
inductive RS where
  | next (env : AEnv) (st : Store) | ret (d : D) (st : Store) | brk (env : AEnv) (st : Store) | cont (env : AEnv) (st : Store) | exc (env : AEnv) (x : EX) (st : Store) | bad

/-- what a text's names stand for -/
structure GX where
  K : PySem.W.Frag
  mg : Str → Option Value
abbrev gx (X : Cx) : GX := ⟨X.K, X.mg⟩

/-! ## how plain data stand in the heap -/
section
variable (G : GX) (μ : List Addr) (H : Hp)
mutual
def RelD : D → V → Prop
  | .non, v => v = .non
  | .bl b, v => v = .bl b
  | .int i, v => v = .int i
  | .str x, v => v = .str x
  | .tup ds, v => ∃ a vs, v = .ref a ∧ H a = some (.tup vs) ∧ RelDs ds vs
  | .ref n, v => ∃ a, μ[n]? = some a ∧ v = .ref a
  | .cls x, v => ∃ a, G.mg x = some (.ref a) ∧ v = .ref a
def RelDs : List D → List V → Prop
  | [], vs => vs = []
  | d :: ds, vs => ∃ v r, vs = v :: r ∧ RelD d v ∧ RelDs ds r
end
def RelF : List (Str × D) → List (Str × V) → Prop
  | [], vs => vs = []
  | (x, d) :: fs, vs => ∃ v r, vs = (x, v) :: r ∧ RelD G μ H d v ∧ RelF fs r
/-- keys: ints and texts -/
def keyS : D → Option Key
  | .int i => some (.inl i)
  | .str x => some (.inr x)
  | _ => none
def keySs : List D → Option (List Key)
  | [] => some []
  | d :: ds => match keyS d, keySs ds with
    | some k, some ks => some (k :: ks)
    | _, _ => none
def keyT : D → Option (List Key)
  | .tup ds => keySs ds
  | _ => none
def RelK {κ : Type} (f : D → Option κ) : List (D × D) → List (κ × V) → Prop
  | [], vs => vs = []
  | (k, d) :: kvs, vs => ∃ c v r, vs = (c, v) :: r ∧ f k = some c ∧ RelD G μ H d v ∧ RelK f kvs r
def HObj : AO → HO → Prop
  | .lst ds, o => ∃ vs, o = .lst vs ∧ RelDs G μ H ds vs
  | .rol ds, o => ∃ ob vs, o = .frz ob (.lst vs) ∧ RelDs G μ H ds vs
  | .ins c fs, o => ∃ C dx vs, o = .ins C dx vs ∧ G.mg c = some (.ref C) ∧ RelF G μ H fs vs
  | .dct kvs, o => ∃ ks, o = .dK ks ∧ RelK G μ H keyS kvs ks
  | .dcT kvs, o => ∃ ks, o = .dT ks ∧ RelK G μ H keyT kvs ks
  | .rdK kvs, o => ∃ ob ks, o = .frz ob (.dK ks) ∧ RelK G μ H keyS kvs ks
  | .rdT kvs, o => ∃ ob ks, o = .frz ob (.dT ks) ∧ RelK G μ H keyT kvs ks
end
structure HS (G : GX) (μ : List Addr) (H : Hp) (st : Store) : Prop where
  nd : μ.Nodup
  len : μ.length = st.length
  obj : ∀ (i : Nat) (a : Addr) (o : AO), μ[i]? = some a → st[i]? = some o → ∃ ho, H a = some ho ∧ HObj G μ H o ho
/-- later: more objects; what is not in the store stands as it stood -/
def Ext (μ : List Addr) (H : Hp) (μ' : List Addr) (H' : Hp) : Prop :=
  ∃ ν, μ' = μ ++ ν ∧ (∀ a ∈ ν, H a = none ∧ a ∉ μ) ∧ ∀ a o, H a = some o → (a ∉ μ ∨ ∃ ob u, o = .frz ob u) → H' a = some o
def EnvR (G : GX) (μ : List Addr) (H : Hp) (env : AEnv) (σ : St) : Prop :=
  env.length = σ.length ∧ ∀ (i : Nat) (d : D), env[i]? = some (some d) → ∃ v, σ[i]? = some (some v) ∧ RelD G μ H d v

section
variable {G : GX} {μ μ' μ1 μ2 : List Addr} {H H' H1 H2 : Hp} {st st' : Store} {env : AEnv} {σ : St}
theorem Ext.refl : Ext μ H μ H := ⟨[], by simp, by simp, fun _ _ h _ => h⟩
theorem Ext.trans (a : Ext μ H μ1 H1) (b : Ext μ1 H1 μ2 H2) : Ext μ H μ2 H2 := by
  obtain ⟨ν, rfl, f1, k1⟩ := a
  obtain ⟨ν', rfl, f2, k2⟩ := b
  refine ⟨ν ++ ν', by simp, fun c hc => ?_, fun c o hc hn => ?_⟩
  · rcases List.mem_append.mp hc with h | h
    · exact f1 c h
    · have hm : c ∉ μ := fun z => (f2 c h).2 (List.mem_append_left _ z)
      refine ⟨?_, hm⟩
      cases q : H c with
      | none => rfl
      | some o =>
        have := k1 c o q (.inl hm)
        rw [(f2 c h).1] at this; cases this
  · refine k2 c o (k1 c o hc hn) (hn.imp_left fun hn hm => ?_)
    rcases List.mem_append.mp hm with h | h
    · exact hn h
    · rw [(f1 c h).1] at hc; cases hc
theorem HObj.noTup {o : AO} {ho : HO} (h : HObj G μ H o ho) : ∀ xs, ho ≠ .tup xs ∧ ∀ ob, ho ≠ .frz ob (.tup xs) := by
  intro xs
  cases o with
  | lst ds => obtain ⟨vs, rfl, _⟩ := h; exact ⟨by simp, by simp⟩
  | rol ds => obtain ⟨ob, vs, rfl, _⟩ := h; exact ⟨by simp, by simp⟩
  | ins c fs => obtain ⟨C, dx, vs, rfl, _⟩ := h; exact ⟨by simp, by simp⟩
  | dct kvs => obtain ⟨ks, rfl, _⟩ := h; exact ⟨by simp, by simp⟩
  | dcT kvs => obtain ⟨ks, rfl, _⟩ := h; exact ⟨by simp, by simp⟩
  | rdK kvs => obtain ⟨ob, ks, rfl, _⟩ := h; exact ⟨by simp, by simp⟩
  | rdT kvs => obtain ⟨ob, ks, rfl, _⟩ := h; exact ⟨by simp, by simp⟩
theorem HS.at (h : HS G μ H st) {i : Nat} {a : Addr} (e : μ[i]? = some a) : ∃ o ho, st[i]? = some o ∧ H a = some ho ∧ HObj G μ H o ho := by
  have hi : i < st.length := by rw [← h.len]; exact (List.getElem?_eq_some_iff.mp e).1
  obtain ⟨ho, e1, e2⟩ := h.obj i a st[i] e (by simp)
  exact ⟨st[i], ho, by simp, e1, e2⟩
theorem HS.noTup (h : HS G μ H st) {a : Addr} {xs : List V} (r : Rd H a (.tup xs)) : a ∉ μ := fun hm => by
  obtain ⟨i, hi, e⟩ := List.getElem_of_mem hm
  obtain ⟨o, ho, _, e1, e2⟩ := h.at (i := i) (a := a) (by rw [List.getElem?_eq_getElem hi, e])
  have := e2.noTup xs
  rcases r with r | ⟨ob, r⟩
  · rw [e1] at r; exact this.1 (Option.some.inj r)
  · rw [e1] at r; exact this.2 ob (Option.some.inj r)
theorem SqT_ext (h : HS G μ H st) (e : Ext μ H μ' H') {a : Addr} {vs : List V} (q : SqT G.K H a vs) : SqT G.K H' a vs := by
  obtain ⟨ν, _, _, k⟩ := e
  rcases q with q | q
  · have hn := h.noTup q
    rcases q with q | ⟨ob, q⟩
    · exact .inl (.inl (k a _ q (.inl hn)))
    · exact .inl (.inr ⟨ob, k a _ q (.inl hn)⟩)
  · exact .inr q
theorem Tup_ext (h : HS G μ H st) (e : Ext μ H μ' H') {a : Addr} {vs : List V} (q : H a = some (.tup vs)) : H' a = some (.tup vs) := by
  obtain ⟨ν, _, _, k⟩ := e
  exact k a _ q (.inl (h.noTup (.inl q)))
mutual
theorem RelD.ext (h : HS G μ H st) (e : Ext μ H μ' H') : ∀ (d : D) (v : V), RelD G μ H d v → RelD G μ' H' d v
  | .non, _, r => r
  | .bl _, _, r => r
  | .int _, _, r => r
  | .str _, _, r => r
  | .tup ds, _, r => by
    obtain ⟨a, vs, e1, q, rs⟩ := r
    exact ⟨a, vs, e1, Tup_ext h e q, RelDs.ext h e ds vs rs⟩
  | .ref n, _, r => by
    obtain ⟨a, e1, e2⟩ := r
    obtain ⟨ν, rfl, _⟩ := e
    exact ⟨a, by rw [List.getElem?_append_left (List.getElem?_eq_some_iff.mp e1).1]; exact e1, e2⟩
  | .cls _, _, r => r
theorem RelDs.ext (h : HS G μ H st) (e : Ext μ H μ' H') : ∀ (ds : List D) (vs : List V), RelDs G μ H ds vs → RelDs G μ' H' ds vs
  | [], _, r => r
  | d :: ds, _, r => by
    obtain ⟨v, rest, e1, rd, rs⟩ := r
    exact ⟨v, rest, e1, RelD.ext h e d v rd, RelDs.ext h e ds rest rs⟩
end
theorem RelF.ext (h : HS G μ H st) (e : Ext μ H μ' H') : ∀ (fs : List (Str × D)) (vs : List (Str × V)), RelF G μ H fs vs → RelF G μ' H' fs vs
  | [], _, r => r
  | (x, d) :: fs, _, r => by
    obtain ⟨v, rest, e1, rd, rs⟩ := r
    exact ⟨v, rest, e1, RelD.ext h e d v rd, RelF.ext h e fs rest rs⟩
theorem RelK.ext {κ : Type} {f : D → Option κ} (h : HS G μ H st) (e : Ext μ H μ' H') : ∀ (kvs : List (D × D)) (vs : List (κ × V)), RelK G μ H f kvs vs → RelK G μ' H' f kvs vs
  | [], _, r => r
  | (k, d) :: kvs, _, r => by
    obtain ⟨c, v, rest, e1, ek, rd, rs⟩ := r
    exact ⟨c, v, rest, e1, ek, RelD.ext h e d v rd, RelK.ext h e kvs rest rs⟩
theorem HObj.ext (h : HS G μ H st) (e : Ext μ H μ' H') {o : AO} {ho : HO} (r : HObj G μ H o ho) : HObj G μ' H' o ho := by
  cases o with
  | lst ds => obtain ⟨vs, e1, rs⟩ := r; exact ⟨vs, e1, RelDs.ext h e ds vs rs⟩
  | rol ds => obtain ⟨ob, vs, e1, rs⟩ := r; exact ⟨ob, vs, e1, RelDs.ext h e ds vs rs⟩
  | ins c fs => obtain ⟨C, dx, vs, e1, m, rs⟩ := r; exact ⟨C, dx, vs, e1, m, RelF.ext h e fs vs rs⟩
  | dct kvs => obtain ⟨ks, e1, rs⟩ := r; exact ⟨ks, e1, RelK.ext h e kvs ks rs⟩
  | dcT kvs => obtain ⟨ks, e1, rs⟩ := r; exact ⟨ks, e1, RelK.ext h e kvs ks rs⟩
  | rdK kvs => obtain ⟨ob, ks, e1, rs⟩ := r; exact ⟨ob, ks, e1, RelK.ext h e kvs ks rs⟩
  | rdT kvs => obtain ⟨ob, ks, e1, rs⟩ := r; exact ⟨ob, ks, e1, RelK.ext h e kvs ks rs⟩
theorem EnvR.ext (h : HS G μ H st) (e : Ext μ H μ' H') (r : EnvR G μ H env σ) : EnvR G μ' H' env σ :=
  ⟨r.1, fun i d q => let ⟨v, e1, rd⟩ := r.2 i d q; ⟨v, e1, RelD.ext h e d v rd⟩⟩
theorem EnvR.set (r : EnvR G μ H env σ) {d : D} {v : V} (rd : RelD G μ H d v) (i : Nat) : EnvR G μ H (env.set i (some d)) (σ.set i (some v)) := by
  refine ⟨by simp [r.1], fun j d' q => ?_⟩
  by_cases hj : i = j
  · subst hj
    have hi : i < env.length := by
      by_cases hi : i < env.length
      · exact hi
      · rw [List.getElem?_eq_none (by simp; omega)] at q; cases q
    rw [List.getElem?_set_self hi] at q
    cases q
    exact ⟨v, by rw [List.getElem?_set_self (by rw [← r.1]; exact hi)], rd⟩
  · rw [List.getElem?_set_ne hj] at q
    obtain ⟨v', e1, rd'⟩ := r.2 j d' q
    exact ⟨v', by rw [List.getElem?_set_ne hj]; exact e1, rd'⟩
end

/-! ## ends -/
def RelX (G : GX) (μ : List Addr) (H : Hp) (x : EX) (C : Value) (od : Option Addr) : Prop :=
  ∃ a, G.mg x.cls = some (.ref a) ∧ C = .ref a ∧ match od with
    | none => x.fs = []
    | some dx => x.fs ≠ [] ∧ dx ∉ μ ∧ ∃ vs, H dx = some (.xd vs) ∧ RelF G μ H x.fs vs
/-- a result's relation: seen from an earlier heap too -/
structure RelT (α β : Type) where
  r : Hp → List Addr → Hp → α → β → Prop
  back : ∀ {μ H μ1 H1 μ2 H2 a y}, Ext μ H μ1 H1 → Ext μ1 H1 μ2 H2 → r H1 μ2 H2 a y → r H μ2 H2 a y
def Post {α β : Type} (G : GX) (W : WX) (rel : RelT α β) (σ : St) (μ : List Addr) (H : Hp) (r : R α) (Q : β → Hp → Prop) : Prop :=
  match r with
  | .ok a st' => ∀ μ' H' y, Ext μ H μ' H' → HS G μ' H' st' → rel.r H μ' H' a y → Q y H'
  | .exc x st' => ∀ μ' H' C od, Ext μ H μ' H' → HS G μ' H' st' → RelX G μ' H' x C od → W C od σ H'
  | .bad => False
def PostS (G : GX) (W : WX) (μ : List Addr) (H : Hp) (r : RS) (Dn : Ends) : Prop :=
  match r with
  | .next env' st' => ∀ μ' H' σ', Ext μ H μ' H' → HS G μ' H' st' → EnvR G μ' H' env' σ' → Dn.nx σ' H'
  | .brk env' st' => ∀ μ' H' σ', Ext μ H μ' H' → HS G μ' H' st' → EnvR G μ' H' env' σ' → Dn.bk σ' H'
  | .cont env' st' => ∀ μ' H' σ', Ext μ H μ' H' → HS G μ' H' st' → EnvR G μ' H' env' σ' → Dn.ct σ' H'
  | .ret d st' => ∀ μ' H' v, Ext μ H μ' H' → HS G μ' H' st' → RelD G μ' H' d v → Dn.rt v H'
  | .exc env' x st' => ∀ μ' H' σ' C od, Ext μ H μ' H' → HS G μ' H' st' → EnvR G μ' H' env' σ' → RelX G μ' H' x C od → W C od σ' H'
  | .bad => False
section
variable {α β γ δ : Type} {G : GX} {W : WX} {rel : RelT α β} {rel2 : RelT γ δ} {μ μ' : List Addr} {H H' : Hp} {σ : St}
theorem Post.later {r : R α} {Q : β → Hp → Prop} (h : Post G W rel σ μ H r Q) (e : Ext μ H μ' H') : Post G W rel σ μ' H' r Q := by
  cases r with
  | ok a st => exact fun μ2 H2 y e2 hs rl => h μ2 H2 y (e.trans e2) hs (rel.back e e2 rl)
  | exc x st => exact fun μ2 H2 C od e2 hs rl => h μ2 H2 C od (e.trans e2) hs rl
  | bad => exact h
theorem Post.mono {r : R α} {Q Q' : β → Hp → Prop} (h : Post G W rel σ μ H r Q) (k : ∀ y H', Q y H' → Q' y H') : Post G W rel σ μ H r Q' := by
  cases r with
  | ok a st => exact fun μ2 H2 y e2 hs rl => k _ _ (h μ2 H2 y e2 hs rl)
  | exc x st => exact h
  | bad => exact h
theorem Post.bind {r : R α} {g : α → Store → R γ} {Q : δ → Hp → Prop} {Q1 : β → Hp → Prop} (h : Post G W rel2 σ μ H (r.bind g) Q)
    (k : ∀ x st1 μ1 H1 y, r = .ok x st1 → Ext μ H μ1 H1 → HS G μ1 H1 st1 → rel.r H μ1 H1 x y → Post G W rel2 σ μ1 H1 (g x st1) Q → Q1 y H1) : Post G W rel σ μ H r Q1 := by
  cases r with
  | ok a st => exact fun μ2 H2 y e2 hs rl => k a st μ2 H2 y rfl e2 hs rl (Post.later h e2)
  | exc x st => exact h
  | bad => exact h
theorem Post.bind0 {r : R α} {g : α → Store → R γ} {Q : δ → Hp → Prop} {Q1 : β → Hp → Prop} (h : Post G W rel2 σ μ H (r.bind g) Q)
    (k : ∀ x st1 μ1 H1 y, r = .ok x st1 → Ext μ H μ1 H1 → HS G μ1 H1 st1 → rel.r H μ1 H1 x y → Post G W rel2 σ μ H (g x st1) Q → Q1 y H1) : Post G W rel σ μ H r Q1 := by
  cases r with
  | ok a st => exact fun μ2 H2 y e2 hs rl => k a st μ2 H2 y rfl e2 hs rl h
  | exc x st => exact h
  | bad => exact h
theorem PostS.later {r : RS} {Dn : Ends} (h : PostS G W μ H r Dn) (e : Ext μ H μ' H') : PostS G W μ' H' r Dn := by
  cases r with
  | next env st => exact fun μ2 H2 y e2 hs rl => h μ2 H2 y (e.trans e2) hs rl
  | brk env st => exact fun μ2 H2 y e2 hs rl => h μ2 H2 y (e.trans e2) hs rl
  | cont env st => exact fun μ2 H2 y e2 hs rl => h μ2 H2 y (e.trans e2) hs rl
  | ret d st => exact fun μ2 H2 y e2 hs rl => h μ2 H2 y (e.trans e2) hs rl
  | exc env x st => exact fun μ2 H2 σ' C od e2 hs er rl => h μ2 H2 σ' C od (e.trans e2) hs er rl
  | bad => exact h
end

/-! ## the judgements -/
def tG {α β : Type} (G : GX) (W : WX) (rel : RelT α β) (f : AEnv → Store → R α) : St → Hp → (β → Hp → Prop) → Prop :=
  fun σ H Q => ∃ μ env st, HS G μ H st ∧ EnvR G μ H env σ ∧ Post G W rel σ μ H (f env st) Q
def tSt (G : GX) (W : WX) (f : AEnv → Store → RS) : TS := fun Dn σ H => ∃ μ env st, HS G μ H st ∧ EnvR G μ H env σ ∧ PostS G W μ H (f env st) Dn
abbrev relB : RelT Bool Bool := ⟨fun _ _ _ a b => b = a, fun _ _ r => r⟩
abbrev relD (G : GX) : RelT D V := ⟨fun _ => RelD G, fun _ _ r => r⟩
abbrev relDs (G : GX) : RelT (List D) (List V) := ⟨fun _ => RelDs G, fun _ _ r => r⟩
theorem Ext.back {μ μ1 μ2 : List Addr} {H H1 H2 : Hp} (x1 : Ext μ H μ1 H1) (x2 : Ext μ1 H1 μ2 H2) {a : Addr} (hn : a ∉ μ2) (h : H1 a = none) : H a = none := by
  obtain ⟨ν, rfl, _, k⟩ := x1
  obtain ⟨ν', rfl, _, _⟩ := x2
  cases q : H a with
  | none => rfl
  | some o =>
    have := k a o q (.inl fun z => hn (List.mem_append_left _ (List.mem_append_left _ z)))
    rw [h] at this; cases this
/-- a new list that nobody else knows -/
abbrev relL (G : GX) : RelT (List D) V := ⟨fun H0 μ H ds v => ∃ a vs, v = .ref a ∧ H0 a = none ∧ a ∉ μ ∧ H a = some (.lst vs) ∧ RelDs G μ H ds vs, fun x1 x2 ⟨a, vs, e1, e2, e3, e4⟩ => ⟨a, vs, e1, x1.back x2 e3 e2, e3, e4⟩⟩
/-- a list or tuple, read -/
abbrev relQ (G : GX) : RelT (List D) V := ⟨fun _ μ H ds v => ∃ a vs, v = .ref a ∧ (SqL G.K H a vs ∨ H a = some (.tup vs)) ∧ RelDs G μ H ds vs, fun _ _ r => r⟩
abbrev EF := AEnv → Store → R D
abbrev LF := AEnv → Store → R (List D)
abbrev BF := AEnv → Store → R Bool
abbrev SF := AEnv → Store → RS
abbrev AE (X : Cx) (W : WX) (e : Expr) (f : EF) : Prop := PE X e (tG (gx X) W (relD (gx X)) f)
abbrev AL (X : Cx) (W : WX) (e : Expr) (f : LF) : Prop := PE X e (tG (gx X) W (relL (gx X)) f)
abbrev AQ (X : Cx) (W : WX) (e : Expr) (f : LF) : Prop := PE X e (tG (gx X) W (relQ (gx X)) f)
abbrev AT (X : Cx) (W : WX) (e : Expr) (f : BF) : Prop := PT X e (tG (gx X) W relB f)
abbrev AA (X : Cx) (W : WX) (es : List Expr) (f : LF) : Prop := PA X es (tG (gx X) W (relDs (gx X)) f)
abbrev AS (X : Cx) (W : WX) (st : Stmt) (f : SF) : Prop := PS X st (tSt (gx X) W f)
abbrev ASs (X : Cx) (W : WX) (sts : List Stmt) (f : SF) : Prop := PSs X sts (tSt (gx X) W f)
section
variable {X : Cx} {e : Expr} {es : List Expr} {s : Stmt} {ss : List Stmt}
theorem _root_.L2.PE.weak {t t' : TE} (h : PE X e t) (k : ∀ σ H Q, t' σ H Q → t σ H Q) : PE X e t' := ⟨fun pins s σ H Q I q => h.run pins s σ H Q I (k _ _ _ q)⟩
theorem _root_.L2.PT.weak {t t' : TT} (h : PT X e t) (k : ∀ σ H Q, t' σ H Q → t σ H Q) : PT X e t' := ⟨fun pins s σ H Q I q => h.run pins s σ H Q I (k _ _ _ q)⟩
theorem _root_.L2.PW.weak {t t' : TT} (h : PW X e t) (k : ∀ σ H Q, t' σ H Q → t σ H Q) : PW X e t' := ⟨fun wh pins s σ H Q I q => h.run wh pins s σ H Q I (k _ _ _ q)⟩
theorem _root_.L2.PA.weak {t t' : TA} (h : PA X es t) (k : ∀ σ H Q, t' σ H Q → t σ H Q) : PA X es t' := ⟨fun pos pins s σ H Q I q => h.run pos pins s σ H Q I (k _ _ _ q)⟩
theorem _root_.L2.PS.weak {t t' : TS} (h : PS X s t) (k : ∀ Dn σ H, t' Dn σ H → t Dn σ H) : PS X s t' := ⟨fun pins s σ H Dn I q => h.run pins s σ H Dn I (k _ _ _ q)⟩
theorem _root_.L2.PSs.weak {t t' : TS} (h : PSs X ss t) (k : ∀ Dn σ H, t' Dn σ H → t Dn σ H) : PSs X ss t' := ⟨fun pins s σ H Dn I q => h.run pins s σ H Dn I (k _ _ _ q)⟩
end

/-! ## names, constants -/
def eVar (i : Nat) : EF := fun env st => match env[i]? with
  | some (some d) => .ok d st
  | _ => .bad
def eC (d : D) : EF := fun _ st => .ok d st
section
variable {X : Cx} {W : WX} {a b c : Expr} {fa fb fc : EF} {pos : Pos}
theorem ae_var (i : Nat) {x : Str} (hN : X.N[i]? = some x := by rfl) (hv : Vis X.env.scope x := by first | exact Or.inl rfl | exact Or.inr (Or.inl rfl) | exact Or.inr (Or.inr rfl)) (hd : (x == ("__debug__" : Str)) = false := by decide)
    (hcd : (x == ("__classdict__" : Str)) = false := by decide) : AE X W (.Name x pos) (eVar i) := (pe_var hN hv hd hcd).weak fun σ H Q ⟨μ, env, st, hs, er, p⟩ => by
  unfold eVar at p
  split at p
  · rename_i d q
    obtain ⟨v, e1, rd⟩ := er.2 i d q
    exact ⟨v, e1, p μ H v .refl hs rd⟩
  · exact p.elim
theorem ae_const {e : Expr} {v : V} (h : PE X e (tC v)) (d : D) (hd : ∀ μ H, RelD (gx X) μ H d v) : AE X W e (eC d) := h.weak fun σ H Q ⟨μ, env, st, hs, er, p⟩ => p μ H v .refl hs (hd μ H)
theorem ae_int {i j} : AE X W (.Constant (.int i) j pos) (eC (.int i)) := ae_const pe_int _ fun _ _ => rfl
theorem ae_bl {i j} : AE X W (.Constant (.bool i) j pos) (eC (.bl i)) := ae_const pe_bl _ fun _ _ => rfl
theorem ae_non {j} : AE X W (.Constant .none j pos) (eC .non) := ae_const pe_non _ fun _ _ => rfl
theorem ae_str {x j} : AE X W (.Constant (.str x) j pos) (eC (.str x)) := ae_const pe_str _ fun _ _ => rfl
/-- a constant of the module -/
theorem ae_globI {x : Str} {i : Int} {t : Tok} (hg : Gl X x) (hm : X.mg x = some (.int i t)) (hd : (x == ("__debug__" : Str)) = false := by decide) : AE X W (.Name x pos) (eC (.int i)) := ae_const (v := .int i) (pe_glob hg hm (by exact ⟨_, rfl⟩) hd) _ fun _ _ => rfl
theorem ae_globS {x : Str} {z : Str} {t : Tok} (hg : Gl X x) (hm : X.mg x = some (.str z t)) (hd : (x == ("__debug__" : Str)) = false := by decide) : AE X W (.Name x pos) (eC (.str z)) := ae_const (v := .str z) (pe_glob hg hm (by exact ⟨_, rfl⟩) hd) _ fun _ _ => rfl
theorem ae_globC {x : Str} {a : Addr} (hg : Gl X x) (hm : X.mg x = some (.ref a)) (hd : (x == ("__debug__" : Str)) = false := by decide) : AE X W (.Name x pos) (eC (.cls x)) := ae_const (v := .ref a) (pe_glob hg hm (by rfl) hd) _ fun _ _ => ⟨a, hm, rfl⟩

/-! ## two operands -/
def e2 (g : D → D → Store → R D) (fa fb : EF) : EF := fun env st => (fa env st).bind fun x st1 => (fb env st1).bind fun y st2 => g x y st2
def e1 (g : D → Store → R D) (fa : EF) : EF := fun env st => (fa env st).bind fun x st1 => g x st1
/-- an operation on plain data, held by an operation's rule -/
def OpA (G : GX) (g : D → D → Store → R D) (r : R2) : Prop := ∀ W σ μ H st x y v u Q, HS G μ H st → RelD G μ H x v → RelD G μ H y u → Post G W (relD G) σ μ H (g x y st) Q → r v u H Q
def UnA (G : GX) (g : D → Store → R D) (r : V → Hp → VK → Prop) : Prop := ∀ W σ μ H st x v Q, HS G μ H st → RelD G μ H x v → Post G W (relD G) σ μ H (g x st) Q → r v H Q
theorem t2_of {G : GX} {g : D → D → Store → R D} {r : R2} (hg : OpA G g r) {σ : St} {H : Hp} {Q : VK} (h : tG G W (relD G) (e2 g fa fb) σ H Q) :
    tOp r (tG G W (relD G) fa) (tG G W (relD G) fb) σ H Q := by
  obtain ⟨μ, env, st, hs, er, p⟩ := h
  refine ⟨μ, env, st, hs, er, Post.bind p fun x st1 μ1 H1 v _ x1 hs1 r1 p1 => ⟨μ1, env, st1, hs1, er.ext hs x1, Post.bind p1 fun y st2 μ2 H2 u _ x2 hs2 r2 p2 => ?_⟩⟩
  exact hg W σ μ2 H2 st2 x y v u Q hs2 (RelD.ext hs1 x2 x v r1) r2 p2
theorem ae_op {op : Operator} {r : R2} {g : D → D → Store → R D} (ho : OpR X (binaryOp op) r) (hg : OpA (gx X) g r) (ha : AE X W a fa) (hb : AE X W b fb) : AE X W (.BinOp a op b pos) (e2 g fa fb) :=
  (pe_op ho ha hb).weak fun _ _ _ h => t2_of hg h
theorem ae_cmp {op : CmpOp} {r : R2} {g : D → D → Store → R D} (ho : OpR X (compareOp op) r) (hg : OpA (gx X) g r) (ha : AE X W a fa) (hb : AE X W b fb) (hm : behindInMarks op b = false) : AE X W (.Compare a [op] [b] pos) (e2 g fa fb) :=
  (pe_cmpR ho ha hb hm).weak fun _ _ _ h => t2_of hg h
theorem ae_un {op : UnaryOp} {r : V → Hp → VK → Prop} {g : D → Store → R D} (ho : UnR X (unaryOp op) r) (hg : UnA (gx X) g r) (ha : AE X W a fa) : AE X W (.UnaryOp op a pos) (e1 g fa) :=
  (pe_un ho ha).weak fun σ H Q h => by
    obtain ⟨μ, env, st, hs, er, p⟩ := h
    exact ⟨μ, env, st, hs, er, Post.bind p fun x st1 μ1 H1 v _ x1 hs1 r1 p1 => hg W σ μ1 H1 st1 x v Q hs1 r1 p1⟩
end
end TK

set_option Elab.async false
set_option linter.all false
set_option maxRecDepth 100000
set_option maxHeartbeats 4000000
namespace TK
open PySem PySem.Spec
open PyProof.Rows hiding St
open L2

/-! ## lists of related things -/
section
variable {G : GX} {μ : List Addr} {H : Hp}
theorem RelDs.length : ∀ {ds : List D} {vs : List V}, RelDs G μ H ds vs → vs.length = ds.length
  | [], _, r => by cases r; rfl
  | d :: ds, _, r => by obtain ⟨v, rest, rfl, _, rs⟩ := r; simp [RelDs.length rs]
theorem RelDs.get : ∀ {ds : List D} {vs : List V} {i : Nat} {d : D}, RelDs G μ H ds vs → ds[i]? = some d → ∃ v, vs[i]? = some v ∧ RelD G μ H d v
  | [], _, _, _, r, e => by simp at e
  | d :: ds, _, 0, _, r, e => by obtain ⟨v, rest, rfl, rd, rs⟩ := r; simp at e; subst e; exact ⟨v, by simp, rd⟩
  | d :: ds, _, i + 1, x, r, e => by obtain ⟨v, rest, rfl, rd, rs⟩ := r; simpa using RelDs.get rs (by simpa using e)
theorem RelDs.get' : ∀ {ds : List D} {vs : List V} {i : Nat} {v : V}, RelDs G μ H ds vs → vs[i]? = some v → ∃ d, ds[i]? = some d ∧ RelD G μ H d v := fun {ds vs i v} r e => by
  have hl := r.length
  have hi : i < ds.length := by rw [← hl]; exact (List.getElem?_eq_some_iff.mp e).1
  obtain ⟨v', e1, rd⟩ := r.get (i := i) (d := ds[i]) (by simp [hi])
  rw [e] at e1; cases e1
  exact ⟨ds[i], by simp [hi], rd⟩
theorem RelDs.append : ∀ {ds ds' : List D} {vs vs' : List V}, RelDs G μ H ds vs → RelDs G μ H ds' vs' → RelDs G μ H (ds ++ ds') (vs ++ vs')
  | [], _, _, _, r, r' => by cases r; exact r'
  | d :: ds, _, _, _, r, r' => by obtain ⟨v, rest, rfl, rd, rs⟩ := r; exact ⟨v, rest ++ _, rfl, rd, RelDs.append rs r'⟩
theorem RelDs.one {d : D} {v : V} (r : RelD G μ H d v) : RelDs G μ H [d] [v] := ⟨v, [], rfl, r, rfl⟩
theorem RelDs.cons {d : D} {v : V} {ds : List D} {vs : List V} (r : RelD G μ H d v) (rs : RelDs G μ H ds vs) : RelDs G μ H (d :: ds) (v :: vs) := ⟨v, vs, rfl, r, rs⟩
theorem RelDs.set : ∀ {ds : List D} {vs : List V} {d : D} {v : V} (i : Nat), RelDs G μ H ds vs → RelD G μ H d v → RelDs G μ H (ds.set i d) (vs.set i v)
  | [], _, _, _, _, r, _ => by cases r; rfl
  | d :: ds, _, _, _, 0, r, q => by obtain ⟨v, rest, rfl, rd, rs⟩ := r; exact ⟨_, rest, rfl, q, rs⟩
  | d :: ds, _, _, _, i + 1, r, q => by obtain ⟨v, rest, rfl, rd, rs⟩ := r; exact ⟨v, _, rfl, rd, RelDs.set i rs q⟩
theorem RelDs.take : ∀ {ds : List D} {vs : List V} (n : Nat), RelDs G μ H ds vs → RelDs G μ H (ds.take n) (vs.take n)
  | _, _, 0, _ => by simp; rfl
  | [], _, n + 1, r => by cases r; rfl
  | d :: ds, _, n + 1, r => by obtain ⟨v, rest, rfl, rd, rs⟩ := r; exact ⟨v, _, rfl, rd, RelDs.take n rs⟩
theorem RelDs.drop : ∀ {ds : List D} {vs : List V} (n : Nat), RelDs G μ H ds vs → RelDs G μ H (ds.drop n) (vs.drop n)
  | _, _, 0, r => r
  | [], _, n + 1, r => by cases r; rfl
  | d :: ds, _, n + 1, r => by obtain ⟨v, rest, rfl, rd, rs⟩ := r; exact RelDs.drop n rs
theorem RelDs.ints : ∀ {ns : List Int} {vs : List V}, RelDs G μ H (ns.map D.int) vs → vs = ns.map V.int
  | [], _, r => by cases r; rfl
  | n :: ns, _, r => by obtain ⟨v, rest, rfl, rd, rs⟩ := r; cases rd; simp [RelDs.ints rs]
theorem RelDs.bls : ∀ {ns : List Bool} {vs : List V}, RelDs G μ H (ns.map D.bl) vs → vs = ns.map V.bl
  | [], _, r => by cases r; rfl
  | n :: ns, _, r => by obtain ⟨v, rest, rfl, rd, rs⟩ := r; cases rd; simp [RelDs.bls rs]
theorem RelDs.of_all : ∀ {ds : List D} {vs : List V}, vs.length = ds.length → (∀ (i : Nat) d v, ds[i]? = some d → vs[i]? = some v → RelD G μ H d v) → RelDs G μ H ds vs
  | [], [], _, _ => rfl
  | [], _ :: _, h, _ => by simp at h
  | _ :: _, [], h, _ => by simp at h
  | d :: ds, v :: vs, h, k => ⟨v, vs, rfl, k 0 d v rfl rfl, RelDs.of_all (by simpa using h) fun i d' v' e1 e2 => k (i + 1) d' v' (by simpa using e1) (by simpa using e2)⟩
end

mutual
theorem RelD.pre {G : GX} {μ ν : List Addr} {H : Hp} : ∀ (d : D) (v : V), RelD G μ H d v → RelD G (μ ++ ν) H d v
  | .non, _, r => r
  | .bl _, _, r => r
  | .int _, _, r => r
  | .str _, _, r => r
  | .tup ds, _, r => by
    obtain ⟨a, vs, e1, q, rs⟩ := r
    exact ⟨a, vs, e1, q, RelDs.pre ds vs rs⟩
  | .ref n, _, r => by
    obtain ⟨a, e1, e2⟩ := r
    exact ⟨a, by rw [List.getElem?_append_left (List.getElem?_eq_some_iff.mp e1).1]; exact e1, e2⟩
  | .cls _, _, r => r
theorem RelDs.pre {G : GX} {μ ν : List Addr} {H : Hp} : ∀ (ds : List D) (vs : List V), RelDs G μ H ds vs → RelDs G (μ ++ ν) H ds vs
  | [], _, r => r
  | d :: ds, _, r => by
    obtain ⟨v, rest, e1, rd, rs⟩ := r
    exact ⟨v, rest, e1, RelD.pre d v rd, RelDs.pre ds rest rs⟩
end

/-! ## a new object -/
section
variable {G : GX} {μ μ' : List Addr} {H H' : Hp} {st : Store}
theorem Ext.new {p : Addr} {o : HO} (hp : H p = none) : Ext μ H μ (upd H p o) := ⟨[], by simp, by simp, fun a u e _ => by rw [upd_ne (ne_of_none e hp)]; exact e⟩
theorem HS.keep (h : HS G μ H st) (e : Ext μ H μ H') (k : ∀ a ∈ μ, H' a = H a) : HS G μ H' st :=
  ⟨h.nd, h.len, fun i a o e1 e2 => by
    obtain ⟨ho, e3, r⟩ := h.obj i a o e1 e2
    exact ⟨ho, by rw [k a (List.mem_of_getElem? e1)]; exact e3, r.ext h e⟩⟩
theorem HS.fresh (h : HS G μ H st) {p : Addr} (hp : H p = none) : p ∉ μ := fun hm => by
  obtain ⟨i, hi, e⟩ := List.getElem_of_mem hm
  obtain ⟨o, ho, _, e1, _⟩ := h.at (i := i) (a := p) (by rw [List.getElem?_eq_getElem hi, e])
  rw [hp] at e1; cases e1
/-- a new object that is not in the store -/
theorem HS.new (h : HS G μ H st) {p : Addr} {o : HO} (hp : H p = none) : HS G μ (upd H p o) st :=
  h.keep (.new hp) fun a ha => upd_ne fun e => h.fresh hp (e ▸ ha)
/-- a new object, put into the store -/
theorem HS.push (h : HS G μ H st) {p : Addr} {o : HO} {ao : AO} (hp : H p = none) (r : HObj G μ H ao o) : HS G (μ ++ [p]) (upd H p o) (st ++ [ao]) ∧ Ext μ H (μ ++ [p]) (upd H p o) := by
  have ex : Ext μ H (μ ++ [p]) (upd H p o) := ⟨[p], rfl, fun a ha => by simp at ha; subst ha; exact ⟨hp, h.fresh hp⟩, fun a u e _ => by rw [upd_ne (ne_of_none e hp)]; exact e⟩
  refine ⟨⟨?_, by simp [h.len], fun i a o' e1 e2 => ?_⟩, ex⟩
  · rw [List.nodup_append]
    refine ⟨h.nd, by simp, fun a ha b hb => ?_⟩
    simp at hb; subst hb
    exact fun e => h.fresh hp (e ▸ ha)
  · by_cases hi : i < μ.length
    · rw [List.getElem?_append_left hi] at e1
      rw [List.getElem?_append_left (by rw [← h.len]; exact hi)] at e2
      obtain ⟨ho, e3, r'⟩ := h.obj i a o' e1 e2
      exact ⟨ho, by rw [upd_ne (ne_of_none e3 hp)]; exact e3, r'.ext h ex⟩
    · have e0 : i = μ.length := by
        have := (List.getElem?_eq_some_iff.mp e1).1
        simp at this; omega
      subst e0
      rw [List.getElem?_append_right (Nat.le_refl _)] at e1
      rw [h.len, List.getElem?_append_right (Nat.le_refl _)] at e2
      simp at e1 e2
      subst e1; subst e2
      exact ⟨o, upd_same, r.ext h ex⟩
/-- a list that nobody knows is put into the store -/
theorem HS.adopt (h : HS G μ H st) {p : Addr} {o : HO} {ao : AO} (hp : H p = some o) (hn : p ∉ μ) (r : HObj G μ H ao o) : HS G (μ ++ [p]) H (st ++ [ao]) := by
  have noT := r.noTup
  have relk : ∀ (d : D) (v : V), RelD G μ H d v → RelD G (μ ++ [p]) H d v := fun d v r => RelD.pre d v r
  have rels : ∀ (ds : List D) (vs : List V), RelDs G μ H ds vs → RelDs G (μ ++ [p]) H ds vs := fun d v r => RelDs.pre d v r
  have relf : ∀ (fs : List (Str × D)) (vs : List (Str × V)), RelF G μ H fs vs → RelF G (μ ++ [p]) H fs vs := by
    intro fs
    induction fs with
    | nil => exact fun vs r => r
    | cons d ds ih => obtain ⟨x, d⟩ := d; intro vs r; obtain ⟨v, rest, e1, rd, rs⟩ := r; exact ⟨v, rest, e1, relk d v rd, ih rest rs⟩
  have relK : ∀ {κ : Type} (f : D → Option κ) (fs : List (D × D)) (vs : List (κ × V)), RelK G μ H f fs vs → RelK G (μ ++ [p]) H f fs vs := by
    intro κ f fs
    induction fs with
    | nil => exact fun vs r => r
    | cons d ds ih => obtain ⟨x, d⟩ := d; intro vs r; obtain ⟨c, v, rest, e1, ek, rd, rs⟩ := r; exact ⟨c, v, rest, e1, ek, relk d v rd, ih rest rs⟩
  have relo : ∀ ao ho, HObj G μ H ao ho → HObj G (μ ++ [p]) H ao ho := by
    intro ao ho r
    cases ao with
    | lst ds => obtain ⟨vs, e1, rs⟩ := r; exact ⟨vs, e1, rels _ _ rs⟩
    | rol ds => obtain ⟨ob, vs, e1, rs⟩ := r; exact ⟨ob, vs, e1, rels _ _ rs⟩
    | ins c fs => obtain ⟨C, dx, vs, e1, m, rs⟩ := r; exact ⟨C, dx, vs, e1, m, relf _ _ rs⟩
    | dct kvs => obtain ⟨ks, e1, rs⟩ := r; exact ⟨ks, e1, relK _ _ _ rs⟩
    | dcT kvs => obtain ⟨ks, e1, rs⟩ := r; exact ⟨ks, e1, relK _ _ _ rs⟩
    | rdK kvs => obtain ⟨ob, ks, e1, rs⟩ := r; exact ⟨ob, ks, e1, relK _ _ _ rs⟩
    | rdT kvs => obtain ⟨ob, ks, e1, rs⟩ := r; exact ⟨ob, ks, e1, relK _ _ _ rs⟩
  refine ⟨?_, by simp [h.len], fun i a o' e1 e2 => ?_⟩
  · rw [List.nodup_append]
    refine ⟨h.nd, by simp, fun a ha b hb => ?_⟩
    simp at hb; subst hb
    exact fun e => hn (e ▸ ha)
  · by_cases hi : i < μ.length
    · rw [List.getElem?_append_left hi] at e1
      rw [List.getElem?_append_left (by rw [← h.len]; exact hi)] at e2
      obtain ⟨ho, e3, r'⟩ := h.obj i a o' e1 e2
      exact ⟨ho, e3, relo _ _ r'⟩
    · have e0 : i = μ.length := by
        have := (List.getElem?_eq_some_iff.mp e1).1
        simp at this; omega
      subst e0
      rw [List.getElem?_append_right (Nat.le_refl _)] at e1
      rw [h.len, List.getElem?_append_right (Nat.le_refl _)] at e2
      simp at e1 e2
      subst e1; subst e2
      exact ⟨o, hp, relo _ _ r⟩
end
end TK

set_option Elab.async false
set_option linter.all false
set_option maxRecDepth 100000
set_option maxHeartbeats 4000000
namespace TK
open PySem PySem.Spec
open PyProof.Rows hiding St
open L2

/-! ## what a call leaves of the store -/
mutual
def closed (n : Nat) : D → Bool
  | .tup ds => closeds n ds
  | .ref k => decide (k < n)
  | _ => true
def closeds (n : Nat) : List D → Bool
  | [] => true
  | d :: ds => closed n d && closeds n ds
end
def closedF (n : Nat) (fs : List (Str × D)) : Bool := fs.all fun p => closed n p.2
def closedK (n : Nat) (fs : List (D × D)) : Bool := fs.all fun p => closed n p.2
def closedO (n : Nat) : AO → Bool
  | .lst ds => closeds n ds
  | .rol ds => closeds n ds
  | .ins _ fs => closedF n fs
  | .dct kvs => closedK n kvs
  | .dcT kvs => closedK n kvs
  | .rdK kvs => closedK n kvs
  | .rdT kvs => closedK n kvs
def Trim (st st' : Store) : Prop := ∀ i, i < st.length → st'[i]? = st[i]? ∨ ∃ o, st'[i]? = some o ∧ closedO st.length o = true
open Classical in
noncomputable def gcR (st : Store) : R D → R D
  | .ok d st' => if Trim st st' then
      (if closed st.length d then .ok d (st'.take st.length)
      else match d with
        | .ref k => match st'[k]? with
          | some o => if closedO st.length o then .ok (.ref st.length) (st'.take st.length ++ [o]) else .ok d st'
          | none => .ok d st'
        | _ => .ok d st')
      else .ok d st'
  | .exc x st' => if Trim st st' ∧ closedF st.length x.fs = true then .exc x (st'.take st.length) else .exc x st'
  | .bad => .bad
section
variable {G : GX} {μ μ' ν : List Addr} {H H' : Hp} {st st' : Store}
mutual
theorem RelD.closed : ∀ (d : D) (v : V), RelD G μ H d v → closed μ.length d = true
  | .non, _, _ => rfl
  | .bl _, _, _ => rfl
  | .int _, _, _ => rfl
  | .str _, _, _ => rfl
  | .cls _, _, _ => rfl
  | .tup ds, _, r => by obtain ⟨a, vs, _, _, rs⟩ := r; exact RelDs.closed ds vs rs
  | .ref n, _, r => by obtain ⟨a, e1, _⟩ := r; simpa [TK.closed] using (List.getElem?_eq_some_iff.mp e1).1
theorem RelDs.closed : ∀ (ds : List D) (vs : List V), RelDs G μ H ds vs → closeds μ.length ds = true
  | [], _, _ => rfl
  | d :: ds, _, r => by
    obtain ⟨v, rest, _, rd, rs⟩ := r
    have h1 := RelD.closed d v rd
    have h2 := RelDs.closed ds rest rs
    simp [TK.closeds, h1, h2]
end
theorem RelF.closed : ∀ {fs : List (Str × D)} {vs : List (Str × V)}, RelF G μ H fs vs → closedF μ.length fs = true
  | [], _, _ => rfl
  | (x, d) :: fs, _, r => by
    obtain ⟨v, rest, _, rd, rs⟩ := r
    have h1 := RelD.closed d v rd
    have h2 := RelF.closed rs
    simp only [closedF] at h2 ⊢
    simp [h1, h2]
theorem RelK.closed {κ : Type} {f : D → Option κ} : ∀ {fs : List (D × D)} {vs : List (κ × V)}, RelK G μ H f fs vs → closedK μ.length fs = true
  | [], _, _ => rfl
  | (x, d) :: fs, _, r => by
    obtain ⟨c, v, rest, _, _, rd, rs⟩ := r
    have h1 := RelD.closed d v rd
    have h2 := RelK.closed rs
    simp only [closedK] at h2 ⊢
    simp [h1, h2]
theorem HObj.closed {o : AO} {ho : HO} (r : HObj G μ H o ho) : closedO μ.length o = true := by
  cases o with
  | lst ds => obtain ⟨vs, _, rs⟩ := r; exact RelDs.closed ds vs rs
  | rol ds => obtain ⟨ob, vs, _, rs⟩ := r; exact RelDs.closed ds vs rs
  | ins c fs => obtain ⟨C, dx, vs, _, _, rs⟩ := r; exact rs.closed
  | dct kvs => obtain ⟨ks, _, rs⟩ := r; exact rs.closed
  | dcT kvs => obtain ⟨ks, _, rs⟩ := r; exact rs.closed
  | rdK kvs => obtain ⟨ob, ks, _, rs⟩ := r; exact rs.closed
  | rdT kvs => obtain ⟨ob, ks, _, rs⟩ := r; exact rs.closed
mutual
theorem RelD.cut : ∀ (d : D) (v : V), TK.closed μ.length d = true → RelD G (μ ++ ν) H d v → RelD G μ H d v
  | .non, _, _, r => r
  | .bl _, _, _, r => r
  | .int _, _, _, r => r
  | .str _, _, _, r => r
  | .cls _, _, _, r => r
  | .tup ds, _, c, r => by
    obtain ⟨a, vs, e1, q, rs⟩ := r
    exact ⟨a, vs, e1, q, RelDs.cut ds vs (by simpa [TK.closed] using c) rs⟩
  | .ref n, _, c, r => by
    obtain ⟨a, e1, e2⟩ := r
    have hn : n < μ.length := by simpa [TK.closed] using c
    exact ⟨a, by rw [List.getElem?_append_left hn] at e1; exact e1, e2⟩
theorem RelDs.cut : ∀ (ds : List D) (vs : List V), TK.closeds μ.length ds = true → RelDs G (μ ++ ν) H ds vs → RelDs G μ H ds vs
  | [], _, _, r => r
  | d :: ds, _, c, r => by
    obtain ⟨v, rest, e1, rd, rs⟩ := r
    simp only [TK.closeds, Bool.and_eq_true] at c
    exact ⟨v, rest, e1, RelD.cut d v c.1 rd, RelDs.cut ds rest c.2 rs⟩
end
theorem RelF.cut : ∀ {fs : List (Str × D)} {vs : List (Str × V)}, closedF μ.length fs = true → RelF G (μ ++ ν) H fs vs → RelF G μ H fs vs
  | [], _, _, r => r
  | (x, d) :: fs, _, c, r => by
    obtain ⟨v, rest, e1, rd, rs⟩ := r
    simp only [closedF, List.all_cons, Bool.and_eq_true] at c
    exact ⟨v, rest, e1, RelD.cut d v c.1 rd, RelF.cut c.2 rs⟩
theorem RelK.cut {κ : Type} {f : D → Option κ} : ∀ {fs : List (D × D)} {vs : List (κ × V)}, closedK μ.length fs = true → RelK G (μ ++ ν) H f fs vs → RelK G μ H f fs vs
  | [], _, _, r => r
  | (x, d) :: fs, _, c, r => by
    obtain ⟨k, v, rest, e1, ek, rd, rs⟩ := r
    simp only [closedK, List.all_cons, Bool.and_eq_true] at c
    exact ⟨k, v, rest, e1, ek, RelD.cut d v c.1 rd, RelK.cut c.2 rs⟩
theorem HObj.cut {o : AO} {ho : HO} (c : closedO μ.length o = true) (r : HObj G (μ ++ ν) H o ho) : HObj G μ H o ho := by
  cases o with
  | lst ds => obtain ⟨vs, e1, rs⟩ := r; exact ⟨vs, e1, RelDs.cut ds vs c rs⟩
  | rol ds => obtain ⟨ob, vs, e1, rs⟩ := r; exact ⟨ob, vs, e1, RelDs.cut ds vs c rs⟩
  | ins c' fs => obtain ⟨C, dx, vs, e1, m, rs⟩ := r; exact ⟨C, dx, vs, e1, m, rs.cut c⟩
  | dct kvs => obtain ⟨ks, e1, rs⟩ := r; exact ⟨ks, e1, rs.cut c⟩
  | dcT kvs => obtain ⟨ks, e1, rs⟩ := r; exact ⟨ks, e1, rs.cut c⟩
  | rdK kvs => obtain ⟨ob, ks, e1, rs⟩ := r; exact ⟨ob, ks, e1, rs.cut c⟩
  | rdT kvs => obtain ⟨ob, ks, e1, rs⟩ := r; exact ⟨ob, ks, e1, rs.cut c⟩
theorem RelF.pre : ∀ {fs : List (Str × D)} {vs : List (Str × V)}, RelF G μ H fs vs → RelF G (μ ++ ν) H fs vs
  | [], _, r => r
  | (x, d) :: fs, _, r => by obtain ⟨v, rest, e1, rd, rs⟩ := r; exact ⟨v, rest, e1, RelD.pre d v rd, RelF.pre rs⟩
theorem RelK.pre {κ : Type} {f : D → Option κ} : ∀ {fs : List (D × D)} {vs : List (κ × V)}, RelK G μ H f fs vs → RelK G (μ ++ ν) H f fs vs
  | [], _, r => r
  | (x, d) :: fs, _, r => by obtain ⟨k, v, rest, e1, ek, rd, rs⟩ := r; exact ⟨k, v, rest, e1, ek, RelD.pre d v rd, RelK.pre rs⟩
theorem HObj.pre {o : AO} {ho : HO} (r : HObj G μ H o ho) : HObj G (μ ++ ν) H o ho := by
  cases o with
  | lst ds => obtain ⟨vs, e1, rs⟩ := r; exact ⟨vs, e1, RelDs.pre ds vs rs⟩
  | rol ds => obtain ⟨ob, vs, e1, rs⟩ := r; exact ⟨ob, vs, e1, RelDs.pre ds vs rs⟩
  | ins c' fs => obtain ⟨C, dx, vs, e1, m, rs⟩ := r; exact ⟨C, dx, vs, e1, m, rs.pre⟩
  | dct kvs => obtain ⟨ks, e1, rs⟩ := r; exact ⟨ks, e1, rs.pre⟩
  | dcT kvs => obtain ⟨ks, e1, rs⟩ := r; exact ⟨ks, e1, rs.pre⟩
  | rdK kvs => obtain ⟨ob, ks, e1, rs⟩ := r; exact ⟨ob, ks, e1, rs.pre⟩
  | rdT kvs => obtain ⟨ob, ks, e1, rs⟩ := r; exact ⟨ob, ks, e1, rs.pre⟩
theorem HS.closedAt (h : HS G μ H st) {i : Nat} {o : AO} (e : st[i]? = some o) : closedO st.length o = true := by
  have hi : i < μ.length := by rw [h.len]; exact (List.getElem?_eq_some_iff.mp e).1
  obtain ⟨ho, _, r⟩ := h.obj i μ[i] o (by simp [hi]) e
  rw [← h.len]; exact r.closed
/-- the store cut back to what stood ahead -/
theorem HS.cut (h0 : HS G μ H st) (e : Ext μ H μ' H') (h1 : HS G μ' H' st') (t : Trim st st') : HS G μ H' (st'.take st.length) := by
  obtain ⟨ν, rfl, f, k⟩ := e
  have hl := h1.len
  simp at hl
  refine ⟨h0.nd, by rw [List.length_take, ← h0.len]; omega, fun i a o e1 e2 => ?_⟩
  have hi : i < μ.length := (List.getElem?_eq_some_iff.mp e1).1
  rw [List.getElem?_take_of_lt (by rw [← h0.len]; exact hi)] at e2
  obtain ⟨ho, e3, r⟩ := h1.obj i a o (by rw [List.getElem?_append_left hi]; exact e1) e2
  refine ⟨ho, e3, r.cut ?_⟩
  rw [h0.len]
  rcases t i (by rw [← h0.len]; exact hi) with q | ⟨o', q, c⟩
  · rw [e2] at q; exact h0.closedAt q.symm
  · rw [e2] at q; cases q; exact c
theorem Ext.cut (e : Ext μ H μ' H') : Ext μ H μ H' := by
  obtain ⟨ν, rfl, f, k⟩ := e
  exact ⟨[], by simp, by simp, k⟩
theorem Post.gc {W : WX} {σ : St} {r : R D} {Q : VK} (h0 : HS G μ H st) (h : Post G W (relD G) σ μ H (gcR st r) Q) : Post G W (relD G) σ μ H r Q := by
  cases r with
  | bad => exact h
  | exc x st' =>
    intro μ' H' C od e hs rx
    simp only [gcR] at h
    split at h
    · rename_i t
      refine h μ H' C od e.cut (h0.cut e hs t.1) ?_
      obtain ⟨ν, rfl, f, k⟩ := e
      obtain ⟨a, m, e1, q⟩ := rx
      refine ⟨a, m, e1, ?_⟩
      cases od with
      | none => exact q
      | some dx =>
        obtain ⟨q1, q2, vs, q3, q4⟩ := q
        exact ⟨q1, fun z => q2 (List.mem_append_left _ z), vs, q3, q4.cut (by rw [h0.len]; exact t.2)⟩
    · exact h μ' H' C od e hs rx
  | ok d st' =>
    intro μ' H' v e hs rd
    simp only [gcR] at h
    split at h
    · rename_i t
      split at h
      · rename_i c
        refine h μ H' v e.cut (h0.cut e hs t) ?_
        obtain ⟨ν, rfl, f, k⟩ := e
        exact RelD.cut d v (by rw [h0.len]; exact c) rd
      · rename_i c
        split at h
        · rename_i k
          split at h
          · rename_i o eo
            split at h
            · rename_i co
              have hc := h0.cut e hs t
              obtain ⟨a, ea, ev⟩ := (show ∃ a, μ'[k]? = some a ∧ v = .ref a from rd)
              have hk : ¬ k < st.length := by simpa [TK.closed] using c
              obtain ⟨ν, rfl, f, kk⟩ := e
              have hkm : μ.length ≤ k := by rw [h0.len]; omega
              have ea' := ea
              rw [List.getElem?_append_right hkm] at ea'
              have hav : a ∈ ν := List.mem_of_getElem? ea'
              obtain ⟨ho, e3, r⟩ := hs.obj k a o ea eo
              have hc2 := hc.adopt e3 (f a hav).2 (HObj.cut (by rw [h0.len]; exact co) r)
              refine h (μ ++ [a]) H' v ⟨[a], rfl, fun b hb => by simp at hb; subst hb; exact f _ hav, kk⟩ hc2 ⟨a, ?_, ev⟩
              rw [← h0.len, List.getElem?_append_right (Nat.le_refl _)]; simp
            · exact h μ' H' v e hs rd
          · exact h μ' H' v e hs rd
        · exact h μ' H' v e hs rd
    · exact h μ' H' v e hs rd
end

/-! ## functions of the text -/
/-- what a def promises: its plain function -/
def spA (G : GX) (m : List D → Store → R D) (n : Nat) : Sp := fun vs H Q E => ∃ μ st ds, HS G μ H st ∧ RelDs G μ H ds vs ∧ Post G (fun C od _ H' => E C od H') (relD G) [] μ H (m ds st) Q ∧ ds.length = n
noncomputable def eCall (m : List D → Store → R D) (fa : LF) : EF := fun env st => (fa env st).bind fun ds st1 => gcR st1 (m ds st1)
def lNil : LF := fun _ st => .ok [] st
def lCons (fa : EF) (fr : LF) : LF := fun env st => (fa env st).bind fun d st1 => (fr env st1).bind fun ds st2 => .ok (d :: ds) st2
theorem Post.slots {α β : Type} {G : GX} {W W' : WX} {rel : RelT α β} {σ σ' : St} {μ : List Addr} {H : Hp} {r : R α} {Q : β → Hp → Prop} (h : Post G W rel σ μ H r Q) (k : ∀ C od H', W C od σ H' → W' C od σ' H') : Post G W' rel σ' μ H r Q := by
  cases r with
  | ok a st => exact h
  | exc x st => exact fun μ' H' C od e hs rx => k _ _ _ (h μ' H' C od e hs rx)
  | bad => exact h
/-- what a body's context gives: no name twice, room for calls, how exceptions go -/
structure Ctx (X : Cx) (W : WX) (lv : Nat) : Prop where
  nd : X.N.Nodup
  calm : X.calm = true
  room : Room lv X.A
  own : PassesOwn (model X.prog X.w) X.A X.env X.xe
  tk : Takes X W
theorem Ctx.at {X : Cx} {W : WX} {lv : Nat} (c : Ctx X W lv) (σ : St) : PassesAt (CX X.prog X.w) X σ (WE W σ) := passAt c.tk σ
theorem Ctx.mono {X : Cx} {W : WX} {j k : Nat} (c : Ctx X W k) (h : j ≤ k) : Ctx X W j := ⟨c.nd, c.calm, c.room.mono h, c.own, c.tk⟩
section
variable {X : Cx} {W : WX} {e : Expr} {es : List Expr} {fa : EF} {fr : LF}
theorem aa_nil : AA X W [] lNil := pa_nil.weak fun σ H Q ⟨μ, env, st, hs, er, p⟩ => p μ H [] .refl hs rfl
theorem aa_cons (ha : AE X W e fa) (hr : AA X W es fr) (hs : starEach (e :: es) X.env = (false, eval e X.env) :: starEach es X.env := by rfl) : AA X W (e :: es) (lCons fa fr) :=
  (pa_cons ha hr hs).weak fun σ H Q ⟨μ, env, st, hs, er, p⟩ =>
    ⟨μ, env, st, hs, er, Post.bind p fun x st1 μ1 H1 v _ x1 hs1 r1 p1 => ⟨μ1, env, st1, hs1, er.ext hs x1, Post.bind p1 fun ds st2 μ2 H2 vs _ x2 hs2 r2 p2 => p2 μ2 H2 (v :: vs) .refl hs2 (.cons (RelD.ext hs1 x2 x v r1) r2)⟩⟩
variable {lv k : Nat} {f : Addr} {fd : FuncData} {ps : List Str} {m : List D → Store → R D} {x : Str} {p pos : Pos}
theorem call_sp {σ : St} {H : Hp} {Q : VK} {n : Nat} (h : tG (gx X) W (relD (gx X)) (eCall m fr) σ H Q) (hn : ∀ env st ds st', fr env st = .ok ds st' → ds.length = n) :
    tCallSD (spA (gx X) m n) [] (WE W) (tG (gx X) W (relDs (gx X)) fr) σ H Q := by
  obtain ⟨μ, env, st, hs, er, q⟩ := h
  refine ⟨μ, env, st, hs, er, Post.bind q fun ds st1 μ1 H1 vs e1 x1 hs1 r1 p1 => ?_⟩
  rw [List.append_nil]
  exact ⟨μ1, st1, ds, hs1, r1, (Post.gc hs1 p1).slots fun _ _ _ w => w, hn env st ds st1 e1⟩
/-- a def of the text, called -/
structure FnA (G : GX) (P : Program) (w : World) (base : Heap) (k : Nat) (x : Str) (n : Nat) (m : List D → Store → R D) : Prop where
  ex : ∃ f fd ps, FnOk P w G.K G.mg base (CX P w) k f fd ps (spA G m n) ∧ G.mg x = some (.ref f) ∧ PySem.W.keepIn G.K (.ref f) = true ∧ Binds G.K fd ps []
theorem ae_call {n : Nat} (F : FnA (gx X) X.prog X.w X.base k x n m) (c : Ctx X W lv) (ha : AA X W (e :: es) fr) (hn : ∀ env st ds st', fr env st = .ok ds st' → ds.length = n) (hk : k ≤ lv := by decide) (hg : Gl X x := by rfl)
    (hdb : (x == ("__debug__" : Str)) = false := by decide) (he : starEach (e :: es) X.env = (false, eval e X.env) :: starEach es X.env := by rfl) (hpl : (backTo pos (starEach es X.env)).any (·.1) = false := by rfl) :
    AE X W (.Call (.Name x p) (e :: es) [] pos) (eCall m fr) := by
  obtain ⟨f, fd, ps, F, hm, hkp, hb⟩ := F.ex
  exact (pe_callSD F (c.room.mono hk) hg hm hkp hb .nil c.at ha hdb he hpl).weak fun σ H Q h => call_sp h hn
theorem lNil_len (env : AEnv) (st : Store) (ds : List D) (st' : Store) (h : lNil env st = .ok ds st') : ds.length = 0 := by cases h; rfl
theorem lCons_len {n : Nat} (hr : ∀ env st ds st', fr env st = .ok ds st' → ds.length = n) (env : AEnv) (st : Store) (ds : List D) (st' : Store) (h : lCons fa fr env st = .ok ds st') : ds.length = n + 1 := by
  unfold lCons at h
  cases e1 : fa env st with
  | ok d st1 =>
    rw [e1] at h
    cases e2 : fr env st1 with
    | ok ds' st2 =>
      rw [R.bind_ok, e2] at h
      cases h
      simp [hr env st1 ds' _ e2]
    | exc _ _ => rw [R.bind_ok, e2] at h; cases h
    | bad => rw [R.bind_ok, e2] at h; cases h
  | exc _ _ => rw [e1] at h; cases h
  | bad => rw [e1] at h; cases h
end
end TK

set_option Elab.async false
set_option linter.all false
set_option maxRecDepth 100000
set_option maxHeartbeats 4000000
namespace TK
open PySem PySem.Spec
open PyProof.Rows hiding St
open L2

/-! ## statements -/
def sOf {α : Type} (r : R α) (env : AEnv) (k : α → Store → RS) : RS := match r with
  | .ok a st => k a st
  | .exc x st => .exc env x st
  | .bad => .bad
@[simp] theorem sOf_ok {α : Type} (a : α) (st : Store) (env : AEnv) (k : α → Store → RS) : sOf (.ok a st) env k = k a st := rfl
@[simp] theorem sOf_exc {α : Type} (x : EX) (st : Store) (env : AEnv) (k : α → Store → RS) : sOf (.exc x st) env k = .exc env x st := rfl
@[simp] theorem sOf_bad {α : Type} (env : AEnv) (k : α → Store → RS) : sOf .bad env k = .bad := rfl
def sThen (r : RS) (g : SF) : RS := match r with
  | .next env st => g env st
  | r => r
@[simp] theorem sThen_next (env : AEnv) (st : Store) (g : SF) : sThen (.next env st) g = g env st := rfl
@[simp] theorem sThen_ret (d : D) (st : Store) (g : SF) : sThen (.ret d st) g = .ret d st := rfl
@[simp] theorem sThen_brk (env : AEnv) (st : Store) (g : SF) : sThen (.brk env st) g = .brk env st := rfl
@[simp] theorem sThen_cont (env : AEnv) (st : Store) (g : SF) : sThen (.cont env st) g = .cont env st := rfl
@[simp] theorem sThen_exc (env : AEnv) (x : EX) (st : Store) (g : SF) : sThen (.exc env x st) g = .exc env x st := rfl
@[simp] theorem sThen_bad (g : SF) : sThen .bad g = .bad := rfl
def sSeq (f g : SF) : SF := fun env st => sThen (f env st) g
def sNil : SF := fun env st => .next env st
def sSet (i : Nat) (fe : EF) : SF := fun env st => sOf (fe env st) env fun d st1 => .next (env.set i (some d)) st1
def sDrop (fe : EF) : SF := fun env st => sOf (fe env st) env fun _ st1 => .next env st1
def sRet (fe : EF) : SF := fun env st => sOf (fe env st) env fun d st1 => .ret d st1
def sRetN : SF := fun _ st => .ret .non st
def sIf (fc : BF) (f g : SF) : SF := fun env st => sOf (fc env st) env fun b st1 => if b then f env st1 else g env st1
def sBrk : SF := fun env st => .brk env st
def sCont : SF := fun env st => .cont env st
section
variable {α β : Type} {G : GX} {W : WX} {rel : RelT α β} {μ : List Addr} {H : Hp} {σ : St} {st : Store} {env : AEnv} {Dn : Ends}
theorem PostS.bind {r : R α} {k : α → Store → RS} {Q : β → Hp → Prop} (h : PostS G W μ H (sOf r env k) Dn) (hs : HS G μ H st) (er : EnvR G μ H env σ)
    (kk : ∀ x st1 μ1 H1 y, r = .ok x st1 → Ext μ H μ1 H1 → HS G μ1 H1 st1 → rel.r H μ1 H1 x y → PostS G W μ1 H1 (k x st1) Dn → Q y H1) : Post G W rel σ μ H r Q := by
  cases r with
  | ok a st => exact fun μ2 H2 y e2 hs rl => kk a st μ2 H2 y rfl e2 hs rl (PostS.later h e2)
  | exc x st => exact fun μ2 H2 C od e2 hs2 rx => h μ2 H2 σ C od e2 hs2 (er.ext hs e2) rx
  | bad => exact h
end
section
variable {X : Cx} {W : WX} {s : Stmt} {ss : List Stmt} {f g : SF} {e : Expr} {fe : EF} {fc : BF} {pos : Pos} {lv : Nat}
theorem ass_nil : ASs X W [] sNil := pss_nil.weak fun Dn σ H ⟨μ, env, st, hs, er, p⟩ => p μ H σ .refl hs er
theorem ass_cons (h1 : AS X W s f) (h2 : ASs X W ss g) : ASs X W (s :: ss) (sSeq f g) := (pss_cons h1 h2).weak fun Dn σ H ⟨μ, env, st, hs, er, p⟩ => by
  refine ⟨μ, env, st, hs, er, ?_⟩
  unfold sSeq at p
  cases q : f env st with
  | next env1 st1 => rw [q] at p; exact fun μ' H' σ' e hs' er' => ⟨μ', env1, st1, hs', er', PostS.later p e⟩
  | ret d st1 => rw [q] at p; exact p
  | brk env1 st1 => rw [q] at p; exact p
  | cont env1 st1 => rw [q] at p; exact p
  | exc env1 x st1 => rw [q] at p; exact p
  | bad => rw [q] at p; exact p
theorem ass_one (h1 : AS X W s f) : ASs X W [s] f := (pss_one h1).weak fun Dn σ H h => h
theorem as_set (c : Ctx X W lv) (i : Nat) {x : Str} {pos' : Pos} (he : AE X W e fe) (hi : X.N[i]? = some x := by rfl) (hx : Loc X.env.scope x := by first | exact Or.inl rfl | exact Or.inr rfl)
    (hs : swapsWith e (some (.Name x pos')) pos.line X.env = pure false := by rfl) (hf : X.fn x = true ∨ X.env.scope.names.lookup x = some .local := by first | exact .inl rfl | exact .inr rfl) :
    AS X W (.Assign [.Name x pos'] e pos) (sSet i fe) := (ps_set c.nd hi hx he hs hf).weak fun Dn σ H ⟨μ, env, st, hs, er, p⟩ =>
  ⟨μ, env, st, hs, er, PostS.bind p hs er fun d st1 μ1 H1 v _ x1 hs1 r1 p1 => p1 μ1 H1 _ .refl hs1 ((er.ext hs x1).set r1 i)⟩
theorem as_expr (he : AE X W e fe) (hs : swapsWith e none pos.line X.env = pure false := by rfl) : AS X W (.Expr e pos) (sDrop fe) := (ps_expr he hs).weak fun Dn σ H ⟨μ, env, st, hs, er, p⟩ =>
  ⟨μ, env, st, hs, er, PostS.bind p hs er fun d st1 μ1 H1 v _ x1 hs1 r1 p1 => p1 μ1 H1 _ .refl hs1 (er.ext hs x1)⟩
theorem as_ret (he : AE X W e fe) : AS X W (.Return (some e) pos) (sRet fe) := (ps_ret he).weak fun Dn σ H ⟨μ, env, st, hs, er, p⟩ =>
  ⟨μ, env, st, hs, er, PostS.bind p hs er fun d st1 μ1 H1 v _ x1 hs1 r1 p1 => p1 μ1 H1 v .refl hs1 r1⟩
theorem as_retN : AS X W (.Return none pos) sRetN := ps_retN.weak fun Dn σ H ⟨μ, env, st, hs, er, p⟩ => p μ H .non .refl hs rfl
theorem as_if {c : Expr} {a b : List Stmt} (hc : AT X W c fc) (ha : ASs X W a f) (hb : ASs X W b g) : AS X W (.If c a b pos) (sIf fc f g) := (ps_if hc ha hb).weak fun Dn σ H ⟨μ, env, st, hs, er, p⟩ =>
  ⟨μ, env, st, hs, er, PostS.bind p hs er fun d st1 μ1 H1 v _ x1 hs1 r1 p1 => by
    have r1 : v = d := r1
    subst r1
    cases v with
    | true => exact ⟨μ1, env, st1, hs1, er.ext hs x1, p1⟩
    | false => exact ⟨μ1, env, st1, hs1, er.ext hs x1, p1⟩⟩
theorem as_brk : AS X W (.Break pos) sBrk := ps_break.weak fun Dn σ H ⟨μ, env, st, hs, er, p⟩ => p μ H σ .refl hs er
theorem as_cont : AS X W (.Continue pos) sCont := ps_continue.weak fun Dn σ H ⟨μ, env, st, hs, er, p⟩ => p μ H σ .refl hs er
theorem as_pass : AS X W (.Pass pos) sNil := ps_pass.weak fun Dn σ H ⟨μ, env, st, hs, er, p⟩ => p μ H σ .refl hs er
end

/-! ## a def -/
def runDef (n : Nat) (body : SF) : List D → Store → R D := fun ds st => match body (ds.map some ++ List.replicate (n - ds.length) none) st with
  | .next _ st' => .ok .non st'
  | .ret d st' => .ok d st'
  | .exc _ x st' => .exc x st'
  | _ => .bad
section
variable {P : Program} {w : World} {G : GX} {base : Heap}
theorem EnvR.start {μ : List Addr} {H : Hp} {ds : List D} {vs : List V} {n : Nat} (r : RelDs G μ H ds vs) : EnvR G μ H (ds.map some ++ List.replicate (n - ds.length) none) (vs.map some ++ List.replicate (n - vs.length) none) := by
  have hl := r.length
  refine ⟨by simp [hl], fun i d q => ?_⟩
  by_cases hi : i < ds.length
  · rw [List.getElem?_append_left (by simpa using hi), List.getElem?_map] at q
    cases e : ds[i]? with
    | none => rw [e] at q; cases q
    | some d' =>
      rw [e] at q
      simp at q
      subst q
      obtain ⟨v, e1, rd⟩ := r.get e
      exact ⟨v, by rw [List.getElem?_append_left (by simpa [hl] using hi), List.getElem?_map, e1]; rfl, rd⟩
  · rw [List.getElem?_append_right (by simpa using hi), List.getElem?_replicate] at q
    split at q <;> cases q
/-- THE RULE of a def: its body as plain function -/
theorem FnA.of {x qual : Str} {st : Stmt} {f : Addr} {fd : FuncData} {N ps : List Str} {k : Nat} {body : SF} (F : Fun G.K x qual st f fd) (S : FnScope N ps (defScope st)) (hm : G.mg x = some (.ref f))
    (hb : Binds G.K fd ps [])
    (h : ∀ (cdv : Value) (A : Around) (outer : List Env) (s : Shared) (H : Hp) (E : XK),
      Ctx (cxOf (L2.CX P w) P w G.K G.mg base N qual (defScope st) f cdv A outer s H E) (fun C od _ H' => E C od H') k → ASs (cxOf (L2.CX P w) P w G.K G.mg base N qual (defScope st) f cdv A outer s H E) (fun C od _ H' => E C od H') (defBody st) body) :
    FnA G P w base (k + 1) x ps.length (runDef N.length body) := by
  refine ⟨f, fd, ps, ?_, hm, F.kp, hb⟩
  refine F.okX S (fun vs H Q E q => ?_) fun cdv A outer s H vs Q E hr hsp => ?_
  · obtain ⟨μ, st, ds, _, r, _, hl⟩ := q
    rw [r.length, hl]
  · obtain ⟨μ, sto, ds, hs, r, p, hl⟩ := hsp
    have c : Ctx (cxOf (L2.CX P w) P w G.K G.mg base N qual (defScope st) f cdv A outer s H E) (fun C od _ H' => E C od H') k :=
      ⟨S.nd, rfl, hr, passes_of rfl, takes_of rfl rfl rfl rfl⟩
    refine ⟨_, h cdv A outer s H E c, ?_⟩
    refine ⟨μ, ds.map some ++ List.replicate (N.length - ds.length) none, sto, hs, EnvR.start (n := N.length) r, ?_⟩
    · unfold runDef at p
      cases q : body (ds.map some ++ List.replicate (N.length - ds.length) none) sto with
      | next env' st' => rw [q] at p; exact fun μ' H' σ' e hs' er' => p μ' H' .non e hs' rfl
      | ret d st' => rw [q] at p; exact p
      | brk env' st' => rw [q] at p; exact p.elim
      | cont env' st' => rw [q] at p; exact p.elim
      | exc env' x st' => rw [q] at p; exact fun μ' H' σ' C od e hs' er' rx => p μ' H' C od e hs' rx
      | bad => rw [q] at p; exact p.elim
end

/-! ## targets -/
inductive Tgt where
  | name (i : Nat) | tup (ts : List Tgt)
mutual
def asgT : Tgt → D → AEnv → Option AEnv
  | .name i, d, env => some (env.set i (some d))
  | .tup ts, .tup ds, env => asgTs ts ds env
  | .tup _, _, _ => none
def asgTs : List Tgt → List D → AEnv → Option AEnv
  | [], [], env => some env
  | t :: ts, d :: ds, env => match asgT t d env with
    | some env' => asgTs ts ds env'
    | none => none
  | _, _, _ => none
end
mutual
def gT (K : PySem.W.Frag) : Tgt → TG
  | .name i => gName i
  | .tup ts => gTup K ts.length (gTs K ts)
def gTs (K : PySem.W.Frag) : List Tgt → TGs
  | [] => gNil
  | t :: ts => gCons (gT K t) (gTs K ts)
end
mutual
def slotsT : Tgt → List Nat
  | .name i => [i]
  | .tup ts => slotsTs ts
def slotsTs : List Tgt → List Nat
  | [] => []
  | t :: ts => slotsT t ++ slotsTs ts
end
theorem wipe_set (σ : St) {i : Nat} {x : Option V} : ∀ {vs : List Nat}, i ∈ vs → wipe (σ.set i x) vs = wipe σ vs
  | [], h => by simp at h
  | v :: vs, h => by
    unfold wipe
    by_cases hv : i ∈ vs
    · rw [wipe_set σ hv]
    · have e : i = v := by rcases List.mem_cons.mp h with h | h; exact h; exact absurd h hv
      subst e
      have com : ∀ (us : List Nat), i ∉ us → wipe (σ.set i x) us = (wipe σ us).set i x := by
        intro us
        induction us with
        | nil => intro _; rfl
        | cons u us ih =>
          intro hu
          simp only [List.mem_cons, not_or] at hu
          unfold wipe
          rw [ih hu.2, List.set_comm _ _ hu.1]
      rw [com vs hv, List.set_set]
theorem wipe_wipe (σ : St) (vs : List Nat) : wipe (wipe σ vs) vs = wipe σ vs := by
  have h : ∀ us : List Nat, (∀ u ∈ us, u ∈ vs) → wipe (wipe σ us) vs = wipe σ vs := by
    intro us
    induction us with
    | nil => intro _; rfl
    | cons u us ih =>
      intro hu
      show wipe ((wipe σ us).set u none) vs = _
      rw [wipe_set _ (hu u (by simp)), ih fun w hw => hu w (by simp [hw])]
  exact h vs fun _ z => z
section
variable {G : GX} {μ : List Addr} {H : Hp} {st : Store}
mutual
theorem gT_ok : ∀ (t : Tgt) {env env' : AEnv} {σ : St} {d : D} {v : V} {Q : St → Hp → Prop}, EnvR G μ H env σ → RelD G μ H d v → asgT t d env = some env' →
    (∀ σ', EnvR G μ H env' σ' → (∀ vs, (∀ i ∈ slotsT t, i ∈ vs) → wipe σ' vs = wipe σ vs) → Q σ' H) → gT G.K t v σ H Q
  | .name i, env, env', σ, d, v, Q, er, rd, e, q => by
    simp only [asgT, Option.some.injEq] at e
    subst e
    unfold gT
    exact q _ (er.set rd i) fun vs hv => wipe_set σ (hv i (by simp [slotsT]))
  | .tup ts, env, env', σ, d, v, Q, er, rd, e, q => by
    cases d with
    | tup ds =>
      obtain ⟨a, vs, e1, hq, rs⟩ := rd
      simp only [asgT] at e
      unfold gT
      have hl : ds.length = ts.length := asgTs_len ts e
      refine ⟨a, vs, e1, .of hq, by rw [rs.length, hl], ?_⟩
      exact gTs_ok ts er rs e fun σ' er' hw => q σ' er' fun us hu => hw us (by simpa [slotsT] using hu)
    | _ => simp [asgT] at e
theorem gTs_ok : ∀ (ts : List Tgt) {env env' : AEnv} {σ : St} {ds : List D} {vs : List V} {Q : St → Hp → Prop}, EnvR G μ H env σ → RelDs G μ H ds vs → asgTs ts ds env = some env' →
    (∀ σ', EnvR G μ H env' σ' → (∀ us, (∀ i ∈ slotsTs ts, i ∈ us) → wipe σ' us = wipe σ us) → Q σ' H) → gTs G.K ts vs σ H Q
  | [], env, env', σ, ds, vs, Q, er, rs, e, q => by
    cases ds with
    | nil => cases rs; simp [asgTs] at e; subst e; unfold gTs; exact ⟨rfl, q σ er fun _ _ => rfl⟩
    | cons _ _ => simp [asgTs] at e
  | t :: ts, env, env', σ, ds, vs, Q, er, rs, e, q => by
    cases ds with
    | nil => simp [asgTs] at e
    | cons d ds =>
      obtain ⟨v, rest, e1, rd, rs⟩ := rs
      simp only [asgTs] at e
      split at e
      · rename_i env1 e2
        unfold gTs
        refine ⟨v, rest, e1, gT_ok t er rd e2 fun σ1 er1 hw1 => ?_⟩
        refine gTs_ok ts er1 rs e fun σ2 er2 hw2 => q σ2 er2 fun us hu => ?_
        rw [hw2 us fun i hi => hu i (by simp [slotsTs, hi]), hw1 us fun i hi => hu i (by simp [slotsTs, hi])]
      · cases e
theorem asgTs_len : ∀ (ts : List Tgt) {env env' : AEnv} {ds : List D}, asgTs ts ds env = some env' → ds.length = ts.length
  | [], env, env', [], e => rfl
  | [], env, env', _ :: _, e => by simp [asgTs] at e
  | t :: ts, env, env', [], e => by simp [asgTs] at e
  | t :: ts, env, env', d :: ds, e => by
    simp only [asgTs] at e
    split at e
    · simp [asgTs_len ts e]
    · cases e
end
end
abbrev AG (X : Cx) (tg : Expr) (t : Tgt) : Prop := PG X tg (gT X.K t)
abbrev AGs (X : Cx) (tgs : List Expr) (ts : List Tgt) : Prop := PGs X tgs (gTs X.K ts)
section
variable {X : Cx} {W : WX} {e tg : Expr} {tgs : List Expr} {fe : EF} {pos : Pos} {lv : Nat} {t : Tgt} {ts : List Tgt}
theorem ag_name (hN : X.N.Nodup) (i : Nat) {x : Str} (hi : X.N[i]? = some x := by rfl) (hx : Loc X.env.scope x := by first | exact Or.inl rfl | exact Or.inr rfl) (hf : X.fn x = true ∨ X.env.scope.names.lookup x = some .local := by first | exact .inl rfl | exact .inr rfl) :
    AG X (.Name x pos) (.name i) := by
  have h := pg_name (pos := pos) hN hi hx hf
  unfold AG gT
  exact h
theorem ags_nil : AGs X [] [] := by unfold AGs gTs; exact pgs_nil
theorem ags_cons (h1 : AG X tg t) (h2 : AGs X tgs ts) (hs : (assignEach (tg :: tgs) X.env).map (·.2) = assign tg X.env :: (assignEach tgs X.env).map (·.2) := by rfl) : AGs X (tg :: tgs) (t :: ts) := by unfold AGs gTs; exact pgs_cons h1 h2 hs
theorem ag_tup {k : Nat} (hc : X.calm = true) (h : AGs X tgs ts) (hn : (assignEach tgs X.env).length = ts.length := by rfl) (hst : (assignEach tgs X.env).findIdx? (·.1) = none := by rfl) : AG X (.Tuple tgs k pos) (.tup ts) := by
  unfold AG gT
  exact pg_tup hc h hn hst
def sAsg (t : Tgt) (fe : EF) : SF := fun env st => sOf (fe env st) env fun d st1 => match asgT t d env with
  | some env' => .next env' st1
  | none => .bad
/-- a, b = e -/
theorem as_asg (he : AE X W e fe) (hg : AG X tg t) (hs : swapsWithSole [tg] e pos.line X.env = pure false := by rfl) (hw : swappedStores [tg] e X.env = pure none := by rfl)
    (h1 : (assignEach [tg] X.env).map (·.2) = [assign tg X.env] := by rfl) : AS X W (.Assign [tg] e pos) (sAsg t fe) := (ps_asg he hg hs hw h1).weak fun Dn σ H ⟨μ, env, st, hs, er, p⟩ =>
  ⟨μ, env, st, hs, er, PostS.bind p hs er fun d st1 μ1 H1 v _ x1 hs1 r1 p1 => by
    split at p1
    · rename_i env' e1
      exact gT_ok (G := gx X) t (er.ext hs x1) r1 e1 fun σ' er' _ => p1 μ1 H1 σ' .refl hs1 er'
    · exact p1.elim⟩
end
end TK

set_option Elab.async false
set_option linter.all false
set_option maxRecDepth 100000
set_option maxHeartbeats 4000000
namespace TK
open PySem PySem.Spec
open PyProof.Rows hiding St
open L2

/-! ## what is walked -/
def seqOf (d : D) (st : Store) : Option (List D) := match d with
  | .tup ds => some ds
  | .ref n => match st[n]? with
    | some (.lst ds) => some ds
    | some (.rol ds) => some ds
    | _ => none
  | _ => none
/-- the items, and the object of the store that must stay as it is meanwhile -/
abbrev Its := List D × List (Nat × List D)
def gOK (g : Its) (st : Store) : Prop := ∀ p ∈ g.2, seqOf (.ref p.1) st = some p.2
@[simp] theorem gOK_nil (ds : List D) (st : Store) : gOK (ds, []) st = True := by simp [gOK]
@[simp] theorem gOK_cons (ds ys : List D) (n : Nat) (l : List (Nat × List D)) (st : Store) : gOK (ds, (n, ys) :: l) st = (seqOf (.ref n) st = some ys ∧ gOK (ds, l) st) := by simp [gOK]
structure IterR (G : GX) (μ : List Addr) (H : Hp) (g : Its) (J : It) : Prop where
  go : ∀ μ1 H1 st1, Ext μ H μ1 H1 → HS G μ1 H1 st1 → gOK g st1 → ∀ i, i < g.1.length → J.go i H1
  yld : ∀ μ1 H1 st1, Ext μ H μ1 H1 → HS G μ1 H1 st1 → gOK g st1 → ∀ i x H2, i < g.1.length → J.yld i H1 x H2 → ∃ d, g.1[i]? = some d ∧ Ext μ1 H1 μ1 H2 ∧ HS G μ1 H2 st1 ∧ RelD G μ1 H2 d x
  stop : ∀ μ1 H1 st1, Ext μ H μ1 H1 → HS G μ1 H1 st1 → gOK g st1 → J.stop g.1.length H1
abbrev relI (G : GX) : RelT Its It := ⟨fun _ μ H g J => IterR G μ H g J, fun _ _ r => r⟩
abbrev IF := AEnv → Store → R Its
abbrev AI (X : Cx) (W : WX) (tg e : Expr) (f : IF) : Prop := PI X tg e (tG (gx X) W (relI (gx X)) f)
theorem _root_.L2.PI.weak {X : Cx} {tg e : Expr} {t t' : TI} (h : PI X tg e t) (k : ∀ σ H Q, t' σ H Q → t σ H Q) : PI X tg e t' := ⟨fun pins s σ H Q I q => h.run pins s σ H Q I (k _ _ _ q)⟩

section
variable {G : GX} {μ μ' : List Addr} {H H' : Hp} {st : Store}
/-- a tuple that stands -/
theorem IterR.tup {a : Addr} {vs : List V} {ds : List D} (hs : HS G μ H st) (q : SqT G.K H a vs) (r : RelDs G μ H ds vs) : IterR G μ H (ds, []) (Itt G.K a) where
  go := fun μ1 H1 st1 e hs1 _ i hi => ⟨vs, vs[i]'(by rw [r.length]; exact hi), SqT_ext hs e q, by simp [r.length, hi]⟩
  yld := fun μ1 H1 st1 e hs1 _ i x H2 hi y => by
    obtain ⟨e1, y⟩ := y
    subst e1
    have hx := y vs (SqT_ext hs e q)
    obtain ⟨d, e2, rd⟩ := r.get' hx
    exact ⟨d, e2, .refl, hs1, RelD.ext hs e d x rd⟩
  stop := fun μ1 H1 st1 e hs1 _ => ⟨vs, SqT_ext hs e q, by rw [r.length]; exact Nat.le_refl _⟩
theorem Ext.lst (e : Ext μ H μ' H') {a : Addr} (hn : a ∉ μ) {o : HO} (h : H a = some o) : H' a = some o := by
  obtain ⟨_, _, _, k⟩ := e
  exact k a o h (.inl hn)
/-- a list that is not in the store -/
theorem IterR.lst {a : Addr} {vs : List V} {ds : List D} (hs : HS G μ H st) (hn : a ∉ μ) (q : H a = some (.lst vs)) (r : RelDs G μ H ds vs) : IterR G μ H (ds, []) (Itl G.K a) where
  go := fun μ1 H1 st1 e hs1 _ i hi => ⟨vs, vs[i]'(by rw [r.length]; exact hi), .of (e.lst hn q), by simp [r.length, hi]⟩
  yld := fun μ1 H1 st1 e hs1 _ i x H2 hi y => by
    obtain ⟨e1, y⟩ := y
    subst e1
    have hx := y vs (.of (e.lst hn q))
    obtain ⟨d, e2, rd⟩ := r.get' hx
    exact ⟨d, e2, .refl, hs1, RelD.ext hs e d x rd⟩
  stop := fun μ1 H1 st1 e hs1 _ => ⟨vs, .of (e.lst hn q), by rw [r.length]; exact Nat.le_refl _⟩
theorem HS.seq (hs : HS G μ H st) {n : Nat} {a : Addr} {ds : List D} (e : μ[n]? = some a) (q : seqOf (.ref n) st = some ds) : ∃ vs, SqL G.K H a vs ∧ RelDs G μ H ds vs := by
  obtain ⟨o, ho, e1, e2, r⟩ := hs.at e
  unfold seqOf at q
  simp only [e1] at q
  cases o with
  | lst ds' => simp at q; subst q; obtain ⟨vs, rfl, rs⟩ := r; exact ⟨vs, .of e2, rs⟩
  | rol ds' => simp at q; subst q; obtain ⟨ob, vs, rfl, rs⟩ := r; exact ⟨vs, .inl (.inr ⟨ob, e2⟩), rs⟩
  | ins c fs => simp at q
  | dct kvs => simp at q
  | dcT kvs => simp at q
  | rdK kvs => simp at q
  | rdT kvs => simp at q
/-- a list of the store -/
theorem IterR.ref {n : Nat} {a : Addr} {ds : List D} (e0 : μ[n]? = some a) : IterR G μ H (ds, [(n, ds)]) (Itl G.K a) where
  go := fun μ1 H1 st1 e hs1 g i hi => by
    obtain ⟨ν, rfl, _, _⟩ := e
    obtain ⟨vs, q, r⟩ := hs1.seq (by rw [List.getElem?_append_left (List.getElem?_eq_some_iff.mp e0).1]; exact e0) (g (n, ds) (by simp))
    exact ⟨vs, vs[i]'(by rw [r.length]; exact hi), q, by simp [r.length, hi]⟩
  yld := fun μ1 H1 st1 e hs1 g i x H2 hi y => by
    obtain ⟨ν, rfl, _, _⟩ := e
    obtain ⟨vs, q, r⟩ := hs1.seq (by rw [List.getElem?_append_left (List.getElem?_eq_some_iff.mp e0).1]; exact e0) (g (n, ds) (by simp))
    obtain ⟨e1, y⟩ := y
    subst e1
    obtain ⟨d, e2, rd⟩ := r.get' (y vs q)
    exact ⟨d, e2, .refl, hs1, rd⟩
  stop := fun μ1 H1 st1 e hs1 g => by
    obtain ⟨ν, rfl, _, _⟩ := e
    obtain ⟨vs, q, r⟩ := hs1.seq (by rw [List.getElem?_append_left (List.getElem?_eq_some_iff.mp e0).1]; exact e0) (g (n, ds) (by simp))
    exact ⟨vs, q, by rw [r.length]; exact Nat.le_refl _⟩
/-- a range -/
def rangeD (lo : Int) (n : Nat) : List D := (List.range n).map fun (i : Nat) => D.int (lo + (i : Int))
theorem rangeD_get (lo : Int) (n i : Nat) : (rangeD lo n)[i]? = if i < n then some (.int (lo + i)) else none := by
  unfold rangeD
  rw [List.getElem?_map]
  by_cases h : i < n
  · rw [if_pos h, List.getElem?_range h]; rfl
  · rw [if_neg h, List.getElem?_eq_none (by simpa using h)]; rfl
theorem rangeD_len (lo : Int) (n : Nat) : (rangeD lo n).length = n := by simp [rangeD]
theorem IterR.rng {lo : Int} {n : Nat} : IterR G μ H (rangeD lo n, []) (Itr lo n) where
  go := fun μ1 H1 st1 e hs1 _ i hi => by
    have h : i < n := by simpa [rangeD_len] using hi
    exact h
  yld := fun μ1 H1 st1 e hs1 _ i x H2 hi y => by
    obtain ⟨rfl, rfl⟩ := y
    have hi : i < n := by simpa [rangeD_len] using hi
    exact ⟨.int (lo + i), by rw [rangeD_get, if_pos hi], .refl, hs1, rfl⟩
  stop := fun μ1 H1 st1 e hs1 _ => by show n ≤ _; simp [rangeD_len]
end

section
variable {X : Cx} {W : WX} {e e2 tg : Expr} {es : List Expr} {fe : EF} {fq : LF} {fa : LF} {pos : Pos} {lv : Nat}
/-- a tuple or a list of the store, walked (which of both must be known) -/
def iTupF (fe : EF) : IF := fun env st => (fe env st).bind fun d st1 => match d with
  | .tup ds => .ok (ds, []) st1
  | _ => .bad
def iRefF (fe : EF) : IF := fun env st => (fe env st).bind fun d st1 => match d with
  | .ref n => (match seqOf (.ref n) st1 with
    | some ds => .ok (ds, [(n, ds)]) st1
    | none => .bad)
  | _ => .bad
def iLstF (fl : LF) : IF := fun env st => (fl env st).bind fun ds st1 => .ok (ds, []) st1
theorem ai_tup (he : AE X W e fe) : AI X W tg e (iTupF fe) := (pi_tup he).weak fun σ H Q ⟨μ, env, st, hs, er, p⟩ =>
  ⟨μ, env, st, hs, er, Post.bind p fun d st1 μ1 H1 v _ x1 hs1 r1 p1 => by
    cases d with
    | tup ds => obtain ⟨a, vs, e1, q, rs⟩ := r1; exact ⟨a, e1, ⟨vs, .of q⟩, p1 μ1 H1 _ .refl hs1 (.tup hs1 (.of q) rs)⟩
    | _ => exact p1.elim⟩
theorem ai_ref (he : AE X W e fe) : AI X W tg e (iRefF fe) := (pi_list he).weak fun σ H Q ⟨μ, env, st, hs, er, p⟩ =>
  ⟨μ, env, st, hs, er, Post.bind p fun d st1 μ1 H1 v _ x1 hs1 r1 p1 => by
    cases d with
    | ref n =>
      obtain ⟨a, e1, ev⟩ := r1
      simp only at p1
      split at p1
      · rename_i ds q
        obtain ⟨vs, q1, rs⟩ := hs1.seq e1 q
        exact ⟨a, ev, ⟨vs, q1⟩, p1 μ1 H1 _ .refl hs1 (.ref e1)⟩
      · exact p1.elim
    | _ => exact p1.elim⟩
theorem ai_lst (he : AL X W e fq) : AI X W tg e (iLstF fq) := (pi_list he).weak fun σ H Q ⟨μ, env, st, hs, er, p⟩ =>
  ⟨μ, env, st, hs, er, Post.bind p fun d st1 μ1 H1 v _ x1 hs1 r1 p1 => by
    obtain ⟨a, vs, e1, _, hn, q, rs⟩ := r1
    exact ⟨a, e1, ⟨vs, .of q⟩, p1 μ1 H1 _ .refl hs1 (.lst hs1 hn q rs)⟩⟩
noncomputable def rngR1 (j : Int) (st : Store) : R Its := hid (if -(2 ^ 62) ≤ j ∧ j < 2 ^ 62 then .ok (rangeD 0 j.toNat, []) st else .bad)
noncomputable def rngR (i j : Int) (st : Store) : R Its := hid (if -(2 ^ 62) ≤ i ∧ i < 2 ^ 62 ∧ -(2 ^ 62) ≤ j ∧ j < 2 ^ 62 then .ok (rangeD i (j - i).toNat, []) st else .bad)
noncomputable def iRng1F (fa : LF) : IF := fun env st => (fa env st).bind fun ds st1 => match ds with
  | [.int j] => rngR1 j st1
  | _ => .bad
noncomputable def iRng2F (fa : LF) : IF := fun env st => (fa env st).bind fun ds st1 => match ds with
  | [.int i, .int j] => rngR i j st1
  | _ => .bad
variable {a b : Expr} {p : Pos}
theorem ai_range1 (hm : X.mg "range" = none) (ha : AA X W [a] fa) (hg : Gl X "range" := by rfl) (hs1 : starEach [a] X.env = [(false, eval a X.env)] := by rfl) : AI X W tg (.Call (.Name "range" p) [a] [] pos) (iRng1F fa) :=
  (pi_range1 hg hm ha hs1).weak fun σ H Q ⟨μ, env, st, hs, er, q⟩ => ⟨μ, env, st, hs, er, Post.bind q fun ds st1 μ1 H1 vs eq x1 hs' rs p1 => by
    split at p1
    · rename_i j
      obtain ⟨v, rest, rfl, rd, e0⟩ := rs
      cases e0; cases rd
      unfold rngR1 at p1
      rw [hid_eq] at p1
      split at p1
      · rename_i h; exact ⟨j, rfl, h.1, h.2, p1 μ1 H1 _ .refl hs' .rng⟩
      · exact p1.elim
    · exact p1.elim⟩
theorem ai_range2 (hm : X.mg "range" = none) (ha : AA X W [a, b] fa) (hg : Gl X "range" := by rfl) (hs1 : starEach [a, b] X.env = [(false, eval a X.env), (false, eval b X.env)] := by rfl) (hs2 : starEach [b] X.env = [(false, eval b X.env)] := by rfl) :
    AI X W tg (.Call (.Name "range" p) [a, b] [] pos) (iRng2F fa) :=
  (pi_range2 hg hm ha hs1 hs2).weak fun σ H Q ⟨μ, env, st, hs, er, q⟩ => ⟨μ, env, st, hs, er, Post.bind q fun ds st1 μ1 H1 vs eq x1 hs' rs p1 => by
    split at p1
    · rename_i i j
      obtain ⟨v, rest, rfl, rd, v2, rest2, rfl, rd2, e0⟩ := rs
      cases e0; cases rd; cases rd2
      unfold rngR at p1
      rw [hid_eq] at p1
      split at p1
      · rename_i h; exact ⟨i, j, rfl, ⟨h.1, h.2.1, h.2.2.1, h.2.2.2⟩, p1 μ1 H1 _ .refl hs' .rng⟩
      · exact p1.elim
    · exact p1.elim⟩
end

/-! ## for -/
open Classical in
noncomputable def loopF (t : Tgt) (body : SF) (g : Its) : List D → AEnv → Store → RS
  | [], env, st => .next env st
  | d :: ds, env, st => match asgT t d env with
    | none => .bad
    | some env1 => match body env1 st with
      | .next e s => if gOK g s then loopF t body g ds e s else .bad
      | .cont e s => if gOK g s then loopF t body g ds e s else .bad
      | .brk e s => .next e s
      | r => r
open Classical in
noncomputable def sFor (t : Tgt) (fi : IF) (body : SF) : SF := fun env st => sOf (fi env st) env fun g st1 => if gOK g st1 then loopF t body g g.1 env st1 else .bad
section
variable {X : Cx} {W : WX} {tg iter : Expr} {body : List Stmt} {fi : IF} {fb : SF} {pos : Pos} {lv : Nat} {t : Tgt}
open Classical in
theorem as_for (c : Ctx X W lv) (hi : AI X W tg iter fi) (hg : AG X tg t) (hb : ASs X W body fb) (hs : ∀ x, foldedSetIterable iter X.env x = pure x := by intro _; rfl) : AS X W (.For tg iter body [] pos) (sFor t fi fb) :=
  (ps_for c.own c.calm hi hg hb hs).weak fun Dn σ H ⟨μ, env, st, hs, er, p⟩ => by
    refine ⟨μ, env, st, hs, er, PostS.bind p hs er fun g st1 μ1 H1 J _ x1 hs1 ir p1 => ?_⟩
    split at p1
    · rename_i g1
      refine ⟨fun i m σ2 H2 => i + m = g.1.length ∧ ∃ μ2 env2 st2, Ext μ1 H1 μ2 H2 ∧ HS (gx X) μ2 H2 st2 ∧ EnvR (gx X) μ2 H2 env2 σ2 ∧ gOK g st2 ∧ PostS (gx X) W μ2 H2 (loopF t fb g (g.1.drop i) env2 st2) Dn,
        ⟨g.1.length, by omega, μ1, env, st1, .refl, hs1, er.ext hs x1, g1, p1⟩, fun i m σ2 H2 w => ?_⟩
      obtain ⟨em, μ2, env2, st2, x2, hs2, er2, g2, p2⟩ := w
      by_cases hi : i < g.1.length
      · refine .inr ⟨ir.go μ2 H2 st2 x2 hs2 g2 i hi, fun σ' H' => ∃ m', m' < m ∧ i + 1 + m' = g.1.length ∧ ∃ μ2 env2 st2, Ext μ1 H1 μ2 H' ∧ HS (gx X) μ2 H' st2 ∧ EnvR (gx X) μ2 H' env2 σ' ∧ gOK g st2 ∧ PostS (gx X) W μ2 H' (loopF t fb g (g.1.drop (i + 1)) env2 st2) Dn,
          fun σ' H' n => by obtain ⟨m', h1, h2, h3⟩ := n; exact ⟨m', h1, h2, h3⟩, fun x H3 y => ?_⟩
        obtain ⟨d, ed, x3, hs3, rd⟩ := ir.yld μ2 H2 st2 x2 hs2 g2 i x H3 hi y
        have edrop : g.1.drop i = d :: g.1.drop (i + 1) := by
          rw [List.drop_eq_getElem_cons hi]
          rw [List.getElem?_eq_getElem hi] at ed
          cases ed; rfl
        rw [edrop] at p2
        unfold loopF at p2
        split at p2
        · exact p2.elim
        · rename_i env3 e3
          refine gT_ok (G := gx X) t (er2.ext hs2 x3) rd e3 fun σ3 er3 _ => ⟨μ2, env3, st2, hs3, er3, ?_⟩
          have p2 := PostS.later p2 x3
          have again : ∀ {e s} {μ' H' σ'}, PostS (gx X) W μ2 H3 (if gOK g s then loopF t fb g (List.drop (i + 1) g.fst) e s else RS.bad) Dn → Ext μ2 H3 μ' H' → HS (gx X) μ' H' s → EnvR (gx X) μ' H' e σ' →
              ∃ m', m' < m ∧ i + 1 + m' = g.1.length ∧ ∃ μ2 env2 st2, Ext μ1 H1 μ2 H' ∧ HS (gx X) μ2 H' st2 ∧ EnvR (gx X) μ2 H' env2 σ' ∧ gOK g st2 ∧ PostS (gx X) W μ2 H' (loopF t fb g (g.1.drop (i + 1)) env2 st2) Dn := by
            intro e s μ' H' σ' q xe hse ere
            split at q
            · rename_i gs
              exact ⟨m - 1, by omega, by omega, μ', e, s, (x2.trans x3).trans xe, hse, ere, gs, PostS.later q xe⟩
            · exact q.elim
          cases q : fb env3 st2 with
          | next e s => rw [q] at p2; exact fun μ' H' σ' xe hse ere => again p2 xe hse ere
          | cont e s => rw [q] at p2; exact fun μ' H' σ' xe hse ere => again p2 xe hse ere
          | brk e s => rw [q] at p2; exact fun μ' H' σ' xe hse ere => p2 μ' H' σ' xe hse ere
          | ret d s => rw [q] at p2; exact p2
          | exc e x s => rw [q] at p2; exact p2
          | bad => rw [q] at p2; exact p2
      · have e0 : i = g.1.length := by omega
        subst e0
        rw [List.drop_length] at p2
        exact .inl ⟨ir.stop μ2 H2 st2 x2 hs2 g2, p2 μ2 H2 σ2 .refl hs2 er2⟩
    · exact p1.elim
end

/-! ## while -/
def loopW (c : BF) (body : SF) : Nat → AEnv → Store → RS
  | 0, _, _ => .bad
  | n + 1, env, st => sOf (c env st) env fun b st1 => if b then (match body env st1 with
      | .next e s => loopW c body n e s
      | .cont e s => loopW c body n e s
      | .brk e s => .next e s
      | r => r) else .next env st1
section
variable {X : Cx} {W : WX} {c : Expr} {body : List Stmt} {fc : BF} {fb : SF} {pos : Pos} {lv : Nat}
theorem as_while (cx : Ctx X W lv) (n : Nat) (hc : AT X W c fc) (hb : ASs X W body fb) : AS X W (.While c body [] pos) (loopW fc fb n) := (ps_while cx.own hc hb).weak fun Dn σ H ⟨μ, env, st, hs, er, p⟩ => by
  refine ⟨fun m σ2 H2 => ∃ μ2 env2 st2, HS (gx X) μ2 H2 st2 ∧ EnvR (gx X) μ2 H2 env2 σ2 ∧ PostS (gx X) W μ2 H2 (loopW fc fb m env2 st2) Dn, ⟨n, μ, env, st, hs, er, p⟩, fun m σ2 H2 w => ?_⟩
  obtain ⟨μ2, env2, st2, hs2, er2, p2⟩ := w
  refine ⟨μ2, env2, st2, hs2, er2, ?_⟩
  cases m with
  | zero => exact p2.elim
  | succ m =>
    unfold loopW at p2
    refine PostS.bind p2 hs2 er2 fun b st3 μ3 H3 v _ x3 hs3 r3 p3 => ?_
    have r3 : v = b := r3
    subst r3
    cases v with
    | false => rw [if_neg (by decide)]; exact p3 μ3 H3 σ2 .refl hs3 (er2.ext hs2 x3)
    | true =>
      rw [if_pos rfl]
      rw [if_pos rfl] at p3
      refine ⟨fun σ' H' => ∃ μ2 env2 st2, HS (gx X) μ2 H' st2 ∧ EnvR (gx X) μ2 H' env2 σ' ∧ PostS (gx X) W μ2 H' (loopW fc fb m env2 st2) Dn, fun σ' H' h => ⟨m, Nat.lt_succ_self m, h⟩, μ3, env2, st3, hs3, er2.ext hs2 x3, ?_⟩
      cases q : fb env2 st3 with
      | next e s => rw [q] at p3; exact fun μ' H' σ' xe hse ere => ⟨μ', e, s, hse, ere, PostS.later p3 xe⟩
      | cont e s => rw [q] at p3; exact fun μ' H' σ' xe hse ere => ⟨μ', e, s, hse, ere, PostS.later p3 xe⟩
      | brk e s => rw [q] at p3; exact fun μ' H' σ' xe hse ere => p3 μ' H' σ' xe hse ere
      | ret d s => rw [q] at p3; exact p3
      | exc e x s => rw [q] at p3; exact p3
      | bad => rw [q] at p3; exact p3
end

/-! ## list comprehensions -/
/-- at such an address stands no tuple -/
def NoTup (H : Hp) (a : Addr) : Prop := ∀ zs, ¬ Rd H a (.tup zs)
theorem NoTup.of {H : Hp} {a : Addr} {o : HO} (h : H a = some o) (h1 : ∀ zs, o ≠ .tup zs) (h2 : ∀ ob zs, o ≠ .frz ob (.tup zs)) : NoTup H a := fun zs r => by
  rcases r with r | ⟨ob, r⟩
  · rw [h] at r; exact h1 zs (Option.some.inj r)
  · rw [h] at r; exact h2 ob zs (Option.some.inj r)
theorem NoTup.lst {H : Hp} {a : Addr} {xs : List V} (h : H a = some (.lst xs)) : NoTup H a := .of h (fun _ z => by cases z) (fun _ _ z => by cases z)
section
variable {G : GX} {μ : List Addr} {H : Hp} {st : Store} {D0 : Addr} {o' : HO}
theorem SqT_upd (e : NoTup H D0) {a : Addr} {vs : List V} (q : SqT G.K H a vs) : SqT G.K (upd H D0 o') a vs := by
  rcases q with q | q
  · have hn : a ≠ D0 := fun z => e vs (z ▸ q)
    rcases q with q | ⟨ob, q⟩
    · exact .inl (.inl (by rw [upd_ne hn]; exact q))
    · exact .inl (.inr ⟨ob, by rw [upd_ne hn]; exact q⟩)
  · exact .inr q
theorem Tup_upd (e : NoTup H D0) {a : Addr} {vs : List V} (q : H a = some (.tup vs)) : upd H D0 o' a = some (.tup vs) := by
  have q' : Rd H a (.tup vs) := .inl q
  have hn : a ≠ D0 := fun z => e vs (z ▸ q')
  rw [upd_ne hn]; exact q
mutual
theorem RelD.wr (e : NoTup H D0) : ∀ (d : D) (v : V), RelD G μ H d v → RelD G μ (upd H D0 o') d v
  | .non, _, r => r
  | .bl _, _, r => r
  | .int _, _, r => r
  | .str _, _, r => r
  | .cls _, _, r => r
  | .ref n, _, r => r
  | .tup ds, _, r => by obtain ⟨a, vs, e1, q, rs⟩ := r; exact ⟨a, vs, e1, Tup_upd e q, RelDs.wr e ds vs rs⟩
theorem RelDs.wr (e : NoTup H D0) : ∀ (ds : List D) (vs : List V), RelDs G μ H ds vs → RelDs G μ (upd H D0 o') ds vs
  | [], _, r => r
  | d :: ds, _, r => by obtain ⟨v, rest, e1, rd, rs⟩ := r; exact ⟨v, rest, e1, RelD.wr e d v rd, RelDs.wr e ds rest rs⟩
end
theorem RelF.wr (e : NoTup H D0) : ∀ {fs : List (Str × D)} {vs : List (Str × V)}, RelF G μ H fs vs → RelF G μ (upd H D0 o') fs vs
  | [], _, r => r
  | (x, d) :: fs, _, r => by obtain ⟨v, rest, e1, rd, rs⟩ := r; exact ⟨v, rest, e1, RelD.wr e d v rd, RelF.wr e rs⟩
theorem RelK.wr {κ : Type} {f : D → Option κ} (e : NoTup H D0) : ∀ {fs : List (D × D)} {vs : List (κ × V)}, RelK G μ H f fs vs → RelK G μ (upd H D0 o') f fs vs
  | [], _, r => r
  | (x, d) :: fs, _, r => by obtain ⟨k, v, rest, e1, ek, rd, rs⟩ := r; exact ⟨k, v, rest, e1, ek, RelD.wr e d v rd, RelK.wr e rs⟩
theorem HObj.wr (e : NoTup H D0) {o : AO} {ho : HO} (r : HObj G μ H o ho) : HObj G μ (upd H D0 o') o ho := by
  cases o with
  | lst ds => obtain ⟨vs, e1, rs⟩ := r; exact ⟨vs, e1, RelDs.wr e _ _ rs⟩
  | rol ds => obtain ⟨ob, vs, e1, rs⟩ := r; exact ⟨ob, vs, e1, RelDs.wr e _ _ rs⟩
  | ins c' fs => obtain ⟨C, dx, vs, e1, m, rs⟩ := r; exact ⟨C, dx, vs, e1, m, rs.wr e⟩
  | dct kvs => obtain ⟨ks, e1, rs⟩ := r; exact ⟨ks, e1, rs.wr e⟩
  | dcT kvs => obtain ⟨ks, e1, rs⟩ := r; exact ⟨ks, e1, rs.wr e⟩
  | rdK kvs => obtain ⟨ob, ks, e1, rs⟩ := r; exact ⟨ob, ks, e1, rs.wr e⟩
  | rdT kvs => obtain ⟨ob, ks, e1, rs⟩ := r; exact ⟨ob, ks, e1, rs.wr e⟩
/-- a list that is not in the store is written -/
theorem HS.wr (hs : HS G μ H st) (hn : D0 ∉ μ) (e : NoTup H D0) : HS G μ (upd H D0 o') st :=
  ⟨hs.nd, hs.len, fun i a o e1 e2 => by
    obtain ⟨ho, e3, r⟩ := hs.obj i a o e1 e2
    exact ⟨ho, by rw [upd_ne fun z => hn (by rw [← z]; exact List.mem_of_getElem? e1)]; exact e3, r.wr e⟩⟩
/-- an object of the store is written -/
theorem HS.put (hs : HS G μ H st) {n : Nat} (hn : μ[n]? = some D0) {ao : AO} (r : HObj G μ H ao o') : HS G μ (upd H D0 o') (st.set n ao) := by
  obtain ⟨o0, h0, e0, e1, r0⟩ := hs.at hn
  have nt : NoTup H D0 := .of e1 (fun zs => (r0.noTup zs).1) fun ob zs => (r0.noTup zs).2 ob
  refine ⟨hs.nd, by simp [hs.len], fun i a o q1 q2 => ?_⟩
  by_cases hi : n = i
  · subst hi
    rw [hn] at q1; cases q1
    rw [List.getElem?_set_self (List.getElem?_eq_some_iff.mp e0).1] at q2
    cases q2
    exact ⟨o', upd_same, r.wr nt⟩
  · rw [List.getElem?_set_ne hi] at q2
    obtain ⟨ho, q3, r3⟩ := hs.obj i a o q1 q2
    refine ⟨ho, ?_, r3.wr nt⟩
    rw [upd_ne]
    · exact q3
    · intro z
      subst z
      obtain ⟨h1, e2⟩ := List.getElem?_eq_some_iff.mp hn
      obtain ⟨h2, e3⟩ := List.getElem?_eq_some_iff.mp q1
      exact hi ((List.getElem_inj hs.nd).mp (e2.trans e3.symm))
theorem HS.noTupAt (hs : HS G μ H st) {n : Nat} (hn : μ[n]? = some D0) : NoTup H D0 := by
  obtain ⟨o0, h0, e0, e1, r0⟩ := hs.at hn
  exact .of e1 (fun zs => (r0.noTup zs).1) fun ob zs => (r0.noTup zs).2 ob
theorem Ext.put {n : Nat} (hn : μ[n]? = some D0) {u0 : HO} (h0 : H D0 = some u0) (hz : ∀ ob u, u0 ≠ .frz ob u := by intro _ _ z; cases z) : Ext μ H μ (upd H D0 o') := ⟨[], by simp, by simp, fun a o e h => by
  rw [upd_ne fun z => h.elim (fun h => h (by rw [z]; exact List.mem_of_getElem? hn)) fun ⟨ob, u, q⟩ => hz ob u (by rw [z, h0] at e; rw [← q]; exact Option.some.inj e)]; exact e⟩
theorem EnvR.wr {env : AEnv} {σ : St} (r : EnvR G μ H env σ) (e : NoTup H D0) : EnvR G μ (upd H D0 o') env σ :=
  ⟨r.1, fun i d q => by obtain ⟨v, e1, rd⟩ := r.2 i d q; exact ⟨v, e1, RelD.wr e d v rd⟩⟩
theorem Ext.wr {μ' : List Addr} {H' : Hp} (x : Ext μ H μ' H') (h0 : H D0 = none) : Ext μ H μ' (upd H' D0 o') := by
  obtain ⟨ν, rfl, f, k⟩ := x
  exact ⟨ν, rfl, f, fun a o e hn => by rw [upd_ne (ne_of_none e h0)]; exact k a o e hn⟩
end
def wipeE (env : AEnv) : List Nat → AEnv
  | [] => env
  | v :: vs => (wipeE env vs).set v none
theorem EnvR.wipe {G : GX} {μ : List Addr} {H : Hp} {env : AEnv} {σ : St} (r : EnvR G μ H env σ) : ∀ vs : List Nat, EnvR G μ H (wipeE env vs) (wipe σ vs)
  | [] => r
  | v :: vs => by
    have r := EnvR.wipe r vs
    unfold wipeE L2.wipe
    refine ⟨by simp [r.1], fun j d q => ?_⟩
    by_cases hj : v = j
    · subst hj
      by_cases hv : v < (wipeE env vs).length
      · rw [List.getElem?_set_self hv] at q; cases q
      · rw [List.getElem?_eq_none (by simp; omega)] at q; cases q
    · rw [List.getElem?_set_ne hj] at q
      obtain ⟨v', e1, rd'⟩ := r.2 j d q
      exact ⟨v', by rw [List.getElem?_set_ne hj]; exact e1, rd'⟩
open Classical in
noncomputable def compL (t : Tgt) (c : BF) (elt : EF) (g : Its) : List D → AEnv → Store → R (List D)
  | [], _, st => .ok [] st
  | d :: ds, env, st => match asgT t d env with
    | none => .bad
    | some env1 => (c env1 st).bind fun b st1 => if b then (elt env1 st1).bind fun y st2 => (if gOK g st2 then (compL t c elt g ds env st2).bind fun ys st3 => .ok (y :: ys) st3 else .bad)
      else (if gOK g st1 then compL t c elt g ds env st1 else .bad)
def noX {α : Type} : R α → R α
  | .ok a st => .ok a st
  | _ => .bad
@[simp] theorem noX_ok {α : Type} (a : α) (st : Store) : noX (.ok a st) = .ok a st := rfl
open Classical in
noncomputable def compF (vs : List Nat) (fi : IF) (t : Tgt) (c : BF) (elt : EF) : LF := fun env st => (fi env st).bind fun g st1 => if gOK g st1 ∧ g.1.length ≤ sizeLine then noX (compL t c elt g g.1 (wipeE env vs) st1) else .bad
/-- no test -/
def bYes : BF := fun _ st => .ok true st
abbrev W0 : WX := fun _ _ _ _ => False
abbrev ATs (X : Cx) (W : WX) (es : List Expr) (f : BF) : Prop := PTs X es (tG (gx X) W relB f)
theorem _root_.L2.PTs.weak {X : Cx} {es : List Expr} {t t' : TT} (h : PTs X es t) (k : ∀ σ H Q, t' σ H Q → t σ H Q) : PTs X es t' := ⟨fun pins s σ H Q I q => h.run pins s σ H Q I (k _ _ _ q)⟩
section
variable {X : Cx} {W : WX} {e : Expr} {f : BF}
theorem ats_nil : ATs X W [] bYes := pts_nil.weak fun σ H Q ⟨μ, env, st, hs, er, p⟩ => p μ H true .refl hs rfl
theorem ats_one (h : AT X W e f) : ATs X W [e] f := pts_one h
end
section
variable {X : Cx} {W : WX} {elt tg iter : Expr} {ifs : List Expr} {scope : Scope} {own : List (Str × Nat)} {pos : Pos} {fi : IF} {t : Tgt} {fc : BF} {fe : EF} {lv : Nat}
theorem comp_t {vs : List Nat} (hv : ∀ i ∈ slotsT t, i ∈ vs) {σ : St} {H : Hp} {Q : VK} (h : tG (gx X) W (relL (gx X)) (compF vs fi t fc fe) σ H Q) :
    tLc (tG (gx X) W (relI (gx X)) fi) (gT X.K t) (tG (gx X) W0 relB fc) (tG (gx X) W0 (relD (gx X)) fe) vs σ H Q := by
  obtain ⟨μ, env, st, hs, er, p⟩ := h
  refine ⟨μ, env, st, hs, er, Post.bind0 p fun g st1 μ1 H1 J _ x1 hs1 ir p1 D hD => ?_⟩
  split at p1
  · rename_i gg
    have hDμ : D ∉ μ1 := hs1.fresh hD
    have hD0 : H D = none := Ext.back x1 .refl hDμ hD
    have whole : ∃ ys stN, compL t fc fe g g.1 (wipeE env vs) st1 = .ok ys stN ∧ Post (gx X) W (relL (gx X)) σ μ H (.ok ys stN) Q := by
      cases q : compL t fc fe g g.1 (wipeE env vs) st1 with
      | ok ys stN => rw [q] at p1; exact ⟨ys, stN, rfl, p1⟩
      | exc x s => rw [q] at p1; exact p1.elim
      | bad => rw [q] at p1; exact p1.elim
    obtain ⟨ys, stN, eN, pN⟩ := whole
    refine ⟨fun i m H2 => i + m = g.1.length ∧ ∃ μ2 st2 acc accV rest, Ext μ1 H1 μ2 H2 ∧ HS (gx X) μ2 H2 st2 ∧ D ∉ μ2 ∧ H2 D = some (.lst accV) ∧ RelDs (gx X) μ2 H2 acc accV ∧ acc.length ≤ i ∧ gOK g st2 ∧
        compL t fc fe g (g.1.drop i) (wipeE env vs) st2 = .ok rest stN ∧ ys = acc ++ rest,
      ⟨g.1.length, by omega, μ1, st1, [], [], ys, Ext.new hD, hs1.new hD, hDμ, upd_same, rfl, by simp, gg.1, eN, by simp⟩, fun i m H2 w => ?_⟩
    obtain ⟨em, μ2, st2, acc, accV, rest, x2, hs2, hn2, hD2, ra, hl, g2, e2, ey⟩ := w
    by_cases hi : i < g.1.length
    · refine .inr ⟨ir.go μ2 H2 st2 x2 hs2 g2 i hi, fun H' => ∃ m', m' < m ∧ i + 1 + m' = g.1.length ∧ ∃ μ2 st2 acc accV rest, Ext μ1 H1 μ2 H' ∧ HS (gx X) μ2 H' st2 ∧ D ∉ μ2 ∧ H' D = some (.lst accV) ∧ RelDs (gx X) μ2 H' acc accV ∧ acc.length ≤ i + 1 ∧ gOK g st2 ∧
        compL t fc fe g (g.1.drop (i + 1)) (wipeE env vs) st2 = .ok rest stN ∧ ys = acc ++ rest,
        fun H' n => by obtain ⟨m', h1, h2, h3⟩ := n; exact ⟨m', h1, h2, h3⟩, fun x H3 y => ?_⟩
      obtain ⟨d, ed, x3, hs3, rd⟩ := ir.yld μ2 H2 st2 x2 hs2 g2 i x H3 hi y
      have edrop : g.1.drop i = d :: g.1.drop (i + 1) := by
        rw [List.drop_eq_getElem_cons hi]
        rw [List.getElem?_eq_getElem hi] at ed
        cases ed; rfl
      rw [edrop] at e2
      unfold compL at e2
      split at e2
      · cases e2
      · rename_i env3 e3
        refine gT_ok (G := gx X) t (((er.ext hs x1).wipe vs).ext hs1 (x2.trans x3)) rd e3 fun σ3 er3 hw => ⟨by rw [hw vs hv, wipe_wipe], μ2, env3, st2, hs3, er3, ?_⟩
        cases qc : fc env3 st2 with
        | exc x s => rw [qc] at e2; cases e2
        | bad => rw [qc] at e2; cases e2
        | ok b st4 =>
          rw [qc, R.bind_ok] at e2
          intro μ4 H4 v4 x4 hs4 r4
          have r4 : v4 = b := r4
          subst r4
          have nD : ∀ {μ' : List Addr} {H' : Hp}, Ext μ2 H3 μ' H' → D ∉ μ' ∧ H' D = some (.lst accV) := fun {μ' H'} xe => by
            have h3 := x3.lst hn2 hD2
            refine ⟨?_, xe.lst hn2 h3⟩
            obtain ⟨ν, rfl, f, _⟩ := xe
            intro hm
            rcases List.mem_append.mp hm with z | z
            · exact hn2 z
            · rw [(f D z).1] at h3; cases h3
          cases v4 with
          | false =>
            rw [if_neg (by decide)] at e2 ⊢
            split at e2
            · rename_i g4
              exact ⟨m - 1, by omega, by omega, μ4, st4, acc, accV, rest, (x2.trans x3).trans x4, hs4, (nD x4).1, (nD x4).2, RelDs.ext hs2 (x3.trans x4) _ _ ra, by omega, g4, e2, ey⟩
            · cases e2
          | true =>
            rw [if_pos rfl] at e2 ⊢
            refine ⟨μ4, env3, st4, hs4, er3.ext hs3 x4, ?_⟩
            cases qe : fe env3 st4 with
            | exc x s => rw [qe] at e2; cases e2
            | bad => rw [qe] at e2; cases e2
            | ok yd st5 =>
              rw [qe, R.bind_ok] at e2
              split at e2
              · rename_i g5
                intro μ5 H5 v5 x5 hs5 r5
                obtain ⟨nD5, eD5⟩ := nD (x4.trans x5)
                refine ⟨accV, eD5, ?_, m - 1, by omega, by omega, μ5, st5, acc ++ [yd], accV ++ [v5], ?_⟩
                · rw [ra.length]; exact Nat.lt_of_le_of_lt hl (Nat.lt_of_lt_of_le hi gg.2)
                · cases qr : compL t fc fe g (List.drop (i + 1) g.fst) (wipeE env vs) st5 with
                  | exc x s => rw [qr] at e2; cases e2
                  | bad => rw [qr] at e2; cases e2
                  | ok rs st6 =>
                    rw [qr, R.bind_ok] at e2
                    cases e2
                    refine ⟨rs, (((x2.trans x3).trans x4).trans x5).wr hD, hs5.wr nD5 (.lst eD5), nD5, upd_same, ?_, by simp; omega, g5, rfl, by rw [ey]; simp⟩
                    exact (RelDs.wr (.lst eD5) _ _ (RelDs.ext hs2 ((x3.trans x4).trans x5) _ _ ra)).append (.one (RelD.wr (.lst eD5) _ _ r5))
              · cases e2
    · have e0 : i = g.1.length := by omega
      subst e0
      rw [List.drop_length] at e2
      cases e2
      rw [List.append_nil] at ey
      subst ey
      exact .inl ⟨ir.stop μ2 H2 _ x2 hs2 g2, pN μ2 H2 _ (x1.trans x2) hs2 ⟨D, accV, rfl, hD0, hn2, hD2, ra⟩⟩
  · exact p1.elim
abbrev bX (X : Cx) (scope : Scope) (s : Shared) (H : Hp) (C : Addr) (cl : List (Str × Addr)) (fp : List Addr) : Cx := X.blk s H scope (compEnvC scope cl C X.env) fp
theorem Ctx.blk (c : Ctx X W lv) (s : Shared) (H : Hp) (C : Addr) (cl : List (Str × Addr)) (fp : List Addr) : Ctx (bX X scope s H C cl fp) W0 lv := ⟨c.nd, c.calm, c.room, PassesOwn.never, takes0⟩
theorem al_comp (c : Ctx X W lv) (hi : AI X W tg iter fi) (own : List (Str × Nat)) (ok : BlkOk X.N X.env.scope scope own)
    (hg : ∀ s H C cl fp, AG (bX X scope s H C cl fp) tg t) (hc : ∀ s H C cl fp, ATs (bX X scope s H C cl fp) W0 ifs fc) (he : ∀ s H C cl fp, AE (bX X scope s H C cl fp) W0 elt fe)
    (hv : ∀ i ∈ slotsT t, i ∈ own.map (·.2) := by decide) (hs : ∀ x, foldedSetIterable iter X.env x = pure x := by intro _; rfl) : AL X W (.ListComp elt [⟨tg, iter, ifs, 0⟩] scope pos) (compF (own.map (·.2)) fi t fc fe) :=
  (pe_lc (g := gT X.K t) (tt := tG (gx X) W0 relB fc) (te := tG (gx X) W0 (relD (gx X)) fe) c.calm c.nd hi ok hg hc he hs).weak fun σ H Q h => comp_t hv h
end
end TK

set_option Elab.async false
set_option linter.all false
set_option maxRecDepth 100000
set_option maxHeartbeats 4000000
namespace TK
open PySem PySem.Spec
open PyProof.Rows hiding St
open L2

/-! ## operators -/
section
variable {X : Cx} {f : Value → Value → Sem Value} {r r' : R2}
theorem OpR_or (a : OpR X f r) (b : OpR X f r') : OpR X f (fun x y H Q => r x y H Q ∨ r' x y H Q) := fun pins s σ H x y v u Q I rx ry h => h.elim (a pins s σ H x y v u Q I rx ry) (b pins s σ H x y v u Q I rx ry)
theorem CallR_or {f : Value} {r r' : List V → Hp → VK → Prop} (a : CallR X f r) (b : CallR X f r') : CallR X f (fun x H Q => r x H Q ∨ r' x H Q) := fun pins s σ H xs us Q I rx h => h.elim (a pins s σ H xs us Q I rx) (b pins s σ H xs us Q I rx)
end
def addD0 (x y : D) (st : Store) : R D := match x, y with
  | .int i, .int j => .ok (.int (i + j)) st
  | .int i, .bl k => .ok (.int (i + b2i k)) st
  | .str a, .str b => if a.length + b.length ≤ sizeLine then .ok (.str (a ++ b)) st else .bad
  | .tup xs, .tup ys => if xs.length + ys.length ≤ sizeLine then .ok (.tup (xs ++ ys)) st else .bad
  | .ref n, .ref m => match st[n]?, st[m]? with
    | some (.lst xs), some (.lst ys) => if xs.length + ys.length ≤ sizeLine then .ok (.ref st.length) (st ++ [.lst (xs ++ ys)]) else .bad
    | _, _ => .bad
  | _, _ => .bad
abbrev rAdds (K : PySem.W.Frag) : R2 := fun x y H Q => (rI0 (fun i j => .int (i + j))) x y H Q ∨ ((fun x y H Q => ∃ i k, x = .int i ∧ y = .bl k ∧ Q (.int (i + b2i k)) H : R2) x y H Q) ∨
  ((fun x y H Q => ∃ i j, x = .str i ∧ y = .str j ∧ i.length + j.length ≤ sizeLine ∧ Q (.str (i ++ j)) H : R2) x y H Q) ∨ rCatA K x y H Q ∨ rCat x y H Q
theorem op_adds {X : Cx} : OpR X (binaryOp .Add) (rAdds X.K) := OpR_or op_add (OpR_or op_add_ib (OpR_or op_add_str (OpR_or op_catA op_cat)))
theorem addA0 {G : GX} : OpA G addD0 (rAdds G.K) := by
  intro W σ μ H st x y v u Q hs rx ry p
  unfold addD0 at p
  split at p
  · cases rx; cases ry; exact .inl ⟨_, _, rfl, rfl, p μ H _ .refl hs rfl⟩
  · cases rx; cases ry; exact .inr (.inl ⟨_, _, rfl, rfl, p μ H _ .refl hs rfl⟩)
  · cases rx; cases ry
    split at p
    · rename_i hz; exact .inr (.inr (.inl ⟨_, _, rfl, rfl, hz, p μ H _ .refl hs rfl⟩))
    · exact p.elim
  · split at p
    · rename_i hz
      obtain ⟨a, vs, rfl, ha, ra⟩ := rx
      obtain ⟨b, us, rfl, hb, rb⟩ := ry
      refine .inr (.inr (.inr (.inl ⟨a, b, vs, us, rfl, rfl, .of ha, .of hb, by rw [ra.length, rb.length]; exact hz, fun e => ?_, fun _ e => ?_, fun _ _ q hq => ?_⟩)))
      · subst e
        refine p μ H _ .refl hs ⟨b, us, rfl, hb, ?_⟩
        have := ra.append rb
        simpa using this
      · subst e
        refine p μ H _ .refl hs ⟨a, vs, rfl, ha, ?_⟩
        have := ra.append rb
        simpa using this
      · exact p μ _ _ (.new hq) (hs.new hq) ⟨q, vs ++ us, rfl, upd_same, RelDs.ext hs (.new hq) _ _ (ra.append rb)⟩
    · exact p.elim
  · rename_i n m
    obtain ⟨a, ea, rfl⟩ := rx
    obtain ⟨b, eb, rfl⟩ := ry
    split at p
    · rename_i xs ys e1 e2
      obtain ⟨_, h1, vs, rfl, r1⟩ := hs.obj n a _ ea e1
      obtain ⟨_, h2, us, rfl, r2⟩ := hs.obj m b _ eb e2
      split at p
      · rename_i hz
        refine .inr (.inr (.inr (.inr ⟨a, b, vs, us, rfl, rfl, h1, h2, by rw [r1.length, r2.length]; exact hz, fun q hq => ?_⟩)))
        have hp := hs.push (ao := .lst (xs ++ ys)) (o := .lst (vs ++ us)) hq ⟨_, rfl, r1.append r2⟩
        refine p _ _ _ hp.2 hp.1 ⟨q, ?_, rfl⟩
        rw [← hs.len, List.getElem?_append_right (Nat.le_refl _)]; simp
      · exact p.elim
    · exact p.elim
  · exact p.elim
/-- a flag and a number -/
abbrev rAddB : R2 := fun x y H Q => ∃ k j, x = .bl k ∧ y = .int j ∧ Q (.int (b2i k + j)) H
theorem op_add_bi {X : Cx} : OpR X (binaryOp .Add) rAddB := by
  intro pins s σ H x y v u Q I rx ry h
  obtain ⟨k, j, rfl, rfl, q⟩ := h
  cases rx
  obtain ⟨t, rfl⟩ := ry
  exact PySem.IntBool.add_bool_int ⟨.int (b2i k + j), H, I.tok _, ⟨_, rfl⟩, q⟩
def addD (x y : D) (st : Store) : R D := match x, y with
  | .bl k, .int j => .ok (.int (b2i k + j)) st
  | x, y => addD0 x y st
theorem addA {G : GX} : OpA G addD (fun x y H Q => rAddB x y H Q ∨ rAdds G.K x y H Q) := by
  intro W σ μ H st x y v u Q hs rx ry p
  unfold addD at p
  split at p
  · cases rx; cases ry; exact .inl ⟨_, _, rfl, rfl, p μ H _ .refl hs rfl⟩
  · exact .inr (addA0 W σ μ H st _ _ v u Q hs rx ry p)
def subD (x y : D) (st : Store) : R D := match x, y with
  | .int i, .int j => .ok (.int (i - j)) st
  | _, _ => .bad
theorem subA {G : GX} : OpA G subD (rI0 fun i j => .int (i - j)) := by
  intro W σ μ H st x y v u Q hs rx ry p
  unfold subD at p
  split at p
  · cases rx; cases ry; exact ⟨_, _, rfl, rfl, p μ H _ .refl hs rfl⟩
  · exact p.elim
def mulOk (i j : Int) : Prop := i.natAbs.log2 + j.natAbs.log2 < 1000000
instance (i j : Int) : Decidable (mulOk i j) := by unfold mulOk; infer_instance
theorem mulOk_lt {i j : Int} (h : i.natAbs < 2 ^ 64) (h' : j.natAbs < 2 ^ 1000) : mulOk i j := wide_mul h h' (by decide) (by decide) (by decide)
def mulD (x y : D) (st : Store) : R D := match x, y with
  | .int i, .int j => if mulOk i j then .ok (.int (i * j)) st else .bad
  | .tup xs, .int k => if -1000000 ≤ k ∧ k ≤ 1000 ∧ xs.length ≤ 1000 then .ok (.tup (List.replicate k.toNat xs).flatten) st else .bad
  | _, _ => .bad
theorem RelDs.rep {G : GX} {μ : List Addr} {H : Hp} {ds : List D} {vs : List V} (r : RelDs G μ H ds vs) : ∀ k : Nat, RelDs G μ H (List.replicate k ds).flatten (List.replicate k vs).flatten
  | 0 => rfl
  | k + 1 => by rw [List.replicate_succ, List.replicate_succ, List.flatten_cons, List.flatten_cons]; exact r.append (RelDs.rep r k)
theorem mulA {G : GX} : OpA G mulD (fun x y H Q => rI CMulW (fun i j => .int (i * j)) x y H Q ∨ rRepA G.K x y H Q) := by
  intro W σ μ H st x y v u Q hs rx ry p
  unfold mulD at p
  split at p
  · cases rx; cases ry
    split at p
    · rename_i hz; exact .inl ⟨_, _, rfl, rfl, hz, p μ H _ .refl hs rfl⟩
    · exact p.elim
  · cases ry
    obtain ⟨a, vs, rfl, ha, ra⟩ := rx
    split at p
    · rename_i hz
      refine .inr ⟨a, _, vs, rfl, rfl, .of ha, hz.1, hz.2.1, by rw [ra.length]; exact hz.2.2, fun e => ?_, fun _ _ q hq => ?_⟩
      · refine p μ H _ .refl hs ⟨a, vs, rfl, ha, ?_⟩
        rcases e with e | e
        · subst e
          have hx := List.eq_nil_of_length_eq_zero (ra.length).symm
          subst hx
          have : ∀ k : Nat, (List.replicate k ([] : List D)).flatten = [] := fun k => by induction k <;> simp_all [List.replicate_succ]
          rw [this]; exact ra
        · subst e; simpa using ra
      exact p μ _ _ (.new hq) (hs.new hq) ⟨q, _, rfl, upd_same, RelDs.ext hs (.new hq) _ _ (ra.rep _)⟩
    · exact p.elim
  · exact p.elim
theorem op_muls {X : Cx} : OpR X (binaryOp .Mult) (fun x y H Q => rI CMulW (fun i j => .int (i * j)) x y H Q ∨ rRepA X.K x y H Q) := OpR_or op_mulW op_repA
def divOk (j : Int) : Prop := 0 < j ∧ j.natAbs.log2 < 9000
instance (j : Int) : Decidable (divOk j) := by unfold divOk; infer_instance
theorem divOk_lt {j : Int} (h : 0 < j) (h' : j.natAbs < 2 ^ 1000) : divOk j := wide_div (i := 0) h h' (by decide) (by decide)
def divD (x y : D) (st : Store) : R D := match x, y with
  | .int i, .int j => if divOk j then .ok (.int (i / j)) st else .bad
  | _, _ => .bad
theorem divA {G : GX} : OpA G divD (rI CDivW fun i j => .int (i / j)) := by
  intro W σ μ H st x y v u Q hs rx ry p
  unfold divD at p
  split at p
  · cases rx; cases ry
    split at p
    · rename_i hz; exact ⟨_, _, rfl, rfl, hz, p μ H _ .refl hs rfl⟩
    · exact p.elim
  · exact p.elim
def modD (x y : D) (st : Store) : R D := match x, y with
  | .int i, .int j => if 0 < j then .ok (.int (i % j)) st else .bad
  | _, _ => .bad
theorem modA {G : GX} : OpA G modD (rI (fun _ j => 0 < j) fun i j => .int (i % j)) := by
  intro W σ μ H st x y v u Q hs rx ry p
  unfold modD at p
  split at p
  · cases rx; cases ry
    split at p
    · rename_i hz; exact ⟨_, _, rfl, rfl, hz, p μ H _ .refl hs rfl⟩
    · exact p.elim
  · exact p.elim
def powD (x y : D) (st : Store) : R D := match x, y with
  | .int i, .int j => if 0 ≤ j ∧ j ≤ 1000000 ∧ i.natAbs < 2 ^ 64 then .ok (.int (i ^ j.toNat)) st else .bad
  | _, _ => .bad
theorem powA {G : GX} : OpA G powD (rI CPow fun i j => .int (i ^ j.toNat)) := by
  intro W σ μ H st x y v u Q hs rx ry p
  unfold powD at p
  split at p
  · cases rx; cases ry
    split at p
    · rename_i hz; exact ⟨_, _, rfl, rfl, hz, p μ H _ .refl hs rfl⟩
    · exact p.elim
  · exact p.elim
def negD (x : D) (st : Store) : R D := match x with
  | .int i => .ok (.int (-i)) st
  | _ => .bad
theorem negA {G : GX} : UnA G negD (rU fun i => .int (-i)) := by
  intro W σ μ H st x v Q hs rx p
  unfold negD at p
  split at p
  · cases rx; exact ⟨_, rfl, p μ H _ .refl hs rfl⟩
  · exact p.elim
def intCmp (g : Int → Int → Bool) (x y : D) (st : Store) : R D := match x, y with
  | .int i, .int j => .ok (.bl (g i j)) st
  | _, _ => .bad
theorem intCmpA {G : GX} {g : Int → Int → Bool} : OpA G (intCmp g) (rI0 fun i j => .bl (g i j)) := by
  intro W σ μ H st x y v u Q hs rx ry p
  unfold intCmp at p
  split at p
  · cases rx; cases ry; exact ⟨_, _, rfl, rfl, p μ H _ .refl hs rfl⟩
  · exact p.elim
abbrev ltD : D → D → Store → R D := intCmp fun i j => decide (i < j)
abbrev leD : D → D → Store → R D := intCmp fun i j => decide (i ≤ j)
abbrev gtD : D → D → Store → R D := intCmp fun i j => decide (j < i)
abbrev geD : D → D → Store → R D := intCmp fun i j => decide (j ≤ i)

/-! ## equality of data -/
mutual
def toPw (f : Nat → Option PyData) : D → Option PyData
  | .non => some .none
  | .bl b => some (.bool b)
  | .int i => some (.int i)
  | .str x => some (.str x)
  | .tup ds => (toPws f ds).map .tuple
  | .ref n => f n
  | .cls _ => none
def toPws (f : Nat → Option PyData) : List D → Option (List PyData)
  | [] => some []
  | d :: ds => match toPw f d, toPws f ds with
    | some p, some ps => some (p :: ps)
    | _, _ => none
end
def toP (st : Store) : Nat → D → Option PyData
  | 0 => toPw fun _ => none
  | n + 1 => toPw fun k => match seqOf (.ref k) st with
    | some ds => (ds.mapM (toP st n)).map .list
    | none => none
def eqP (x y : D) (st : Store) : Option Bool := match toP st 50 x, toP st 50 y with
  | some p, some q => if SeqAt.shaped p = true ∧ SeqAt.shaped q = true then some (PyData.eqv p q) else none
  | _, _ => none
def eqD (x y : D) (st : Store) : R D := match eqP x y st with
  | some b => .ok (.bl b) st
  | none => .bad
def neD (x y : D) (st : Store) : R D := match eqP x y st with
  | some b => .ok (.bl (!b)) st
  | none => .bad
section
variable {G : GX} {μ : List Addr} {H : Hp} {st : Store}
mutual
theorem toPw_ok {f : Nat → Option PyData} (hf : ∀ n a p, μ[n]? = some a → f n = some p → Dp G.K H (.ref a) p) : ∀ (d : D) (v : V) (p : PyData), RelD G μ H d v → toPw f d = some p → Dp G.K H v p
  | .non, _, _, r, e => by cases r; simp [toPw] at e; subst e; exact .non
  | .bl _, _, _, r, e => by cases r; simp [toPw] at e; subst e; exact .bl _
  | .int _, _, _, r, e => by cases r; simp [toPw] at e; subst e; exact .int _
  | .str _, _, _, r, e => by cases r; simp [toPw] at e; subst e; exact .str _
  | .cls _, _, _, r, e => by simp [toPw] at e
  | .ref n, _, p, r, e => by obtain ⟨a, e1, rfl⟩ := r; exact hf n a p e1 e
  | .tup ds, _, p, r, e => by
    obtain ⟨a, vs, rfl, q, rs⟩ := r
    simp only [toPw, Option.map_eq_some_iff] at e
    obtain ⟨ps, e1, rfl⟩ := e
    exact .tup (.of q) (toPws_ok hf ds vs ps rs e1)
theorem toPws_ok {f : Nat → Option PyData} (hf : ∀ n a p, μ[n]? = some a → f n = some p → Dp G.K H (.ref a) p) : ∀ (ds : List D) (vs : List V) (ps : List PyData), RelDs G μ H ds vs → toPws f ds = some ps → DpAll G.K H vs ps
  | [], _, _, r, e => by cases r; simp [toPws] at e; subst e; exact .nil
  | d :: ds, _, ps, r, e => by
    obtain ⟨v, rest, rfl, rd, rs⟩ := r
    simp only [toPws] at e
    split at e
    · rename_i p ps' e1 e2
      cases e
      exact .cons (toPw_ok hf d v p rd e1) (toPws_ok hf ds rest ps' rs e2)
    · cases e
end
theorem toP_ok (hs : HS G μ H st) : ∀ (n : Nat) (d : D) (v : V) (p : PyData), RelD G μ H d v → toP st n d = some p → Dp G.K H v p
  | 0, d, v, p, r, e => toPw_ok (fun _ _ _ _ z => by cases z) d v p r e
  | n + 1, d, v, p, r, e => by
    refine toPw_ok (fun k a q e1 e2 => ?_) d v p r e
    split at e2
    · rename_i ds e3
      obtain ⟨vs, hq, rs⟩ := hs.seq e1 e3
      simp only [Option.map_eq_some_iff] at e2
      obtain ⟨ps, e4, rfl⟩ := e2
      refine .lst hq ?_
      clear e3 hq
      induction ds generalizing vs ps with
      | nil => cases rs; simp at e4; subst e4; exact .nil
      | cons d ds ih =>
        obtain ⟨v, rest, rfl, rd, rs⟩ := rs
        rw [List.mapM_cons] at e4
        cases q1 : toP st n d with
        | none => rw [q1] at e4; cases e4
        | some p1 =>
          cases q2 : ds.mapM (toP st n) with
          | none => rw [q1, q2] at e4; cases e4
          | some ps1 =>
            rw [q1, q2] at e4
            cases e4
            exact .cons (toP_ok hs n d v p1 rd q1) (ih _ rs _ q2)
    · cases e2
theorem eqP_ok (hs : HS G μ H st) {x y : D} {v u : V} {b : Bool} (rx : RelD G μ H x v) (ry : RelD G μ H y u) (e : eqP x y st = some b) : ∃ d e, Dp G.K H v d ∧ Dp G.K H u e ∧ SeqAt.shaped d = true ∧ SeqAt.shaped e = true ∧ PyData.eqv d e = b := by
  unfold eqP at e
  split at e
  · rename_i p q e1 e2
    split at e
    · rename_i h
      cases e
      exact ⟨p, q, toP_ok hs 50 x v p rx e1, toP_ok hs 50 y u q ry e2, h.1, h.2, rfl⟩
    · cases e
  · cases e
theorem eqA : OpA G eqD (rEqD G.K) := by
  intro W σ μ H st x y v u Q hs rx ry p
  unfold eqD at p
  split at p
  · rename_i b e
    obtain ⟨d, e, h1, h2, h3, h4, h5⟩ := eqP_ok hs rx ry e
    exact ⟨d, e, h1, h2, h3, h4, by rw [h5]; exact p μ H _ .refl hs rfl⟩
  · exact p.elim
theorem neA : OpA G neD (rNeD G.K) := by
  intro W σ μ H st x y v u Q hs rx ry p
  unfold neD at p
  split at p
  · rename_i b e
    obtain ⟨d, e, h1, h2, h3, h4, h5⟩ := eqP_ok hs rx ry e
    exact ⟨d, e, h1, h2, h3, h4, by rw [h5]; exact p μ H _ .refl hs rfl⟩
  · exact p.elim
def isNonD (x : D) : Bool := match x with | .non => true | _ => false
theorem RelD.isNon {x : D} {v : V} (r : RelD G μ H x v) : decide (v = .non) = isNonD x := by
  cases x with
  | non => cases r; rfl
  | bl _ => cases r; rfl
  | int _ => cases r; rfl
  | str _ => cases r; rfl
  | tup ds => obtain ⟨a, vs, rfl, _⟩ := r; rfl
  | ref n => obtain ⟨a, _, rfl⟩ := r; rfl
  | cls x => obtain ⟨a, _, rfl⟩ := r; rfl
end
def isND (x y : D) (st : Store) : R D := match y with
  | .non => .ok (.bl (isNonD x)) st
  | _ => .bad
def notND (x y : D) (st : Store) : R D := match y with
  | .non => .ok (.bl (!isNonD x)) st
  | _ => .bad
theorem isNA {G : GX} : OpA G isND (fun x y H Q => y = .non ∧ Q (.bl (decide (x = .non))) H) := by
  intro W σ μ H st x y v u Q hs rx ry p
  unfold isND at p
  split at p
  · cases ry; exact ⟨rfl, by rw [rx.isNon]; exact p μ H _ .refl hs rfl⟩
  · exact p.elim
theorem notNA {G : GX} : OpA G notND (fun x y H Q => y = .non ∧ Q (.bl (!decide (x = .non))) H) := by
  intro W σ μ H st x y v u Q hs rx ry p
  unfold notND at p
  split at p
  · cases ry; exact ⟨rfl, by rw [rx.isNon]; exact p μ H _ .refl hs rfl⟩
  · exact p.elim
section
variable {X : Cx} {W : WX} {a b c : Expr} {fa fb fc : EF} {pos : Pos} {lv : Nat}
theorem ae_add (ha : AE X W a fa) (hb : AE X W b fb) : AE X W (.BinOp a .Add b pos) (e2 addD fa fb) := ae_op (OpR_or op_add_bi op_adds) addA ha hb
theorem ae_sub (ha : AE X W a fa) (hb : AE X W b fb) : AE X W (.BinOp a .Sub b pos) (e2 subD fa fb) := ae_op op_sub subA ha hb
theorem ae_mul (ha : AE X W a fa) (hb : AE X W b fb) : AE X W (.BinOp a .Mult b pos) (e2 mulD fa fb) := ae_op op_muls mulA ha hb
theorem ae_fdiv (ha : AE X W a fa) (hb : AE X W b fb) : AE X W (.BinOp a .FloorDiv b pos) (e2 divD fa fb) := ae_op op_fdivW divA ha hb
theorem ae_mod (ha : AE X W a fa) (hb : AE X W b fb) : AE X W (.BinOp a .Mod b pos) (e2 modD fa fb) := ae_op op_mod modA ha hb
theorem ae_pow (ha : AE X W a fa) (hb : AE X W b fb) : AE X W (.BinOp a .Pow b pos) (e2 powD fa fb) := ae_op op_pow powA ha hb
theorem ae_neg (ha : AE X W a fa) : AE X W (.UnaryOp .USub a pos) (e1 negD fa) := ae_un un_neg negA ha
theorem ae_lt (ha : AE X W a fa) (hb : AE X W b fb) : AE X W (.Compare a [.Lt] [b] pos) (e2 ltD fa fb) := ae_cmp op_lt intCmpA ha hb (nomark _)
theorem ae_le (ha : AE X W a fa) (hb : AE X W b fb) : AE X W (.Compare a [.LtE] [b] pos) (e2 leD fa fb) := ae_cmp op_le intCmpA ha hb (nomark _)
theorem ae_gt (ha : AE X W a fa) (hb : AE X W b fb) : AE X W (.Compare a [.Gt] [b] pos) (e2 gtD fa fb) := ae_cmp op_gt intCmpA ha hb (nomark _)
theorem ae_ge (ha : AE X W a fa) (hb : AE X W b fb) : AE X W (.Compare a [.GtE] [b] pos) (e2 geD fa fb) := ae_cmp op_ge intCmpA ha hb (nomark _)
theorem ae_eq (cx : Ctx X W lv) (ha : AE X W a fa) (hb : AE X W b fb) : AE X W (.Compare a [.Eq] [b] pos) (e2 eqD fa fb) := ae_cmp (op_eqD cx.room.units) eqA ha hb (nomark _)
theorem ae_ne (cx : Ctx X W lv) (ha : AE X W a fa) (hb : AE X W b fb) : AE X W (.Compare a [.NotEq] [b] pos) (e2 neD fa fb) := ae_cmp (op_neD cx.room.units) neA ha hb (nomark _)
theorem ae_isN {j pos'} (ha : AE X W a fa) : AE X W (.Compare a [.Is] [.Constant .none j pos'] pos) (e2 isND fa (eC .non)) := ae_cmp op_isN isNA ha ae_non (nomark _)
theorem ae_notN {j pos'} (ha : AE X W a fa) : AE X W (.Compare a [.IsNot] [.Constant .none j pos'] pos) (e2 notND fa (eC .non)) := ae_cmp op_notN notNA ha ae_non (nomark _)
/-- a <= b < c -/
def eChain (g g' : D → D → Store → R D) (fa fb fc : EF) : EF := fun env st => (fa env st).bind fun x st1 => (fb env st1).bind fun y st2 => (g x y st2).bind fun z st3 => match z with
  | .bl true => (fc env st3).bind fun w st4 => g' y w st4
  | .bl false => .ok (.bl false) st3
  | _ => .bad
theorem chain_t {G : GX} {σ : St} {H : Hp} {Q : VK} {r r' : R2} {g g' : D → D → Store → R D} (hg : OpA G g r) (hg' : OpA G g' r') (h : tG G W (relD G) (eChain g g' fa fb fc) σ H Q) :
    tChain r r' (tG G W (relD G) fa) (tG G W (relD G) fb) (tG G W (relD G) fc) σ H Q := by
  obtain ⟨μ, env, st, hs, er, p⟩ := h
  refine ⟨μ, env, st, hs, er, Post.bind p fun x st1 μ1 H1 v _ x1 hs1 r1 p1 => ⟨μ1, env, st1, hs1, er.ext hs x1, Post.bind p1 fun y st2 μ2 H2 u _ x2 hs2 r2 p2 => ?_⟩⟩
  refine hg W σ μ2 H2 st2 x y v u _ hs2 (RelD.ext hs1 x2 x v r1) r2 ?_
  refine Post.bind p2 fun z st3 μ3 H3 w _ x3 hs3 r3 p3 => ?_
  cases z with
  | bl k =>
    cases r3
    refine ⟨k, rfl, ?_⟩
    cases k with
    | true =>
      rw [if_pos rfl]
      refine ⟨μ3, env, st3, hs3, ((er.ext hs x1).ext hs1 x2).ext hs2 x3, Post.bind p3 fun w' st4 μ4 H4 v4 _ x4 hs4 r4 p4 => ?_⟩
      exact hg' W σ μ4 H4 st4 y w' u v4 Q hs4 (RelD.ext hs2 (x3.trans x4) y u r2) r4 p4
    | false => rw [if_neg (by decide)]; exact p3 μ3 H3 _ .refl hs3 rfl
  | _ => exact p3.elim
theorem ae_chain {op op' : CmpOp} {r r' : R2} {g g' : D → D → Store → R D} (ho : OpR X (compareOp op) r) (hg : OpA (gx X) g r) (ho' : OpR X (compareOp op') r') (hg' : OpA (gx X) g' r') (ha : AE X W a fa) (hb : AE X W b fb) (hc : AE X W c fc)
    (h1 : lastMarks [op, op'] [b, c] = false := by rfl) : AE X W (.Compare a [op, op'] [b, c] pos) (eChain g g' fa fb fc) := (pe_chain ho ho' ha hb hc h1).weak fun σ H Q h => chain_t hg hg' h
/-- a value that must be a bool -/
def bB (fe : EF) : BF := fun env st => (fe env st).bind fun d st1 => match d with
  | .bl b => .ok b st1
  | _ => .bad
theorem tB_of {G : GX} {fe : EF} {σ : St} {H : Hp} {Q : Bool → Hp → Prop} (h : tG G W relB (bB fe) σ H Q) : tG G W (relD G) fe σ H (fun x H' => ∃ k, x = .bl k ∧ Q k H') := by
  obtain ⟨μ, env, st, hs, er, p⟩ := h
  refine ⟨μ, env, st, hs, er, Post.bind p fun d st1 μ1 H1 v _ x1 hs1 r1 p1 => ?_⟩
  cases d with
  | bl b => cases r1; exact ⟨b, rfl, p1 μ1 H1 b .refl hs1 rfl⟩
  | _ => exact p1.elim
theorem at_cmp {op : CmpOp} {r : R2} {g : D → D → Store → R D} (ho : OpR X (compareOp op) r) (hg : OpA (gx X) g r) (ha : AE X W a fa) (hb : AE X W b fb) (hm : behindInMarks op b = false) : AT X W (.Compare a [op] [b] pos) (bB (e2 g fa fb)) :=
  (pt_cmpR ho ha hb hm).weak fun σ H Q h => t2_of hg (tB_of h)
theorem at_chain {op op' : CmpOp} {r r' : R2} {g g' : D → D → Store → R D} (ho : OpR X (compareOp op) r) (hg : OpA (gx X) g r) (ho' : OpR X (compareOp op') r') (hg' : OpA (gx X) g' r') (ha : AE X W a fa) (hb : AE X W b fb) (hc : AE X W c fc)
    (h1 : lastMarks [op, op'] [b, c] = false := by rfl) : AT X W (.Compare a [op, op'] [b, c] pos) (bB (eChain g g' fa fb fc)) := (pt_chain ho ho' ha hb hc h1).weak fun σ H Q h => chain_t hg hg' (tB_of h)
theorem at_lt (ha : AE X W a fa) (hb : AE X W b fb) : AT X W (.Compare a [.Lt] [b] pos) (bB (e2 ltD fa fb)) := at_cmp op_lt intCmpA ha hb (nomark _)
theorem at_le (ha : AE X W a fa) (hb : AE X W b fb) : AT X W (.Compare a [.LtE] [b] pos) (bB (e2 leD fa fb)) := at_cmp op_le intCmpA ha hb (nomark _)
theorem at_gt (ha : AE X W a fa) (hb : AE X W b fb) : AT X W (.Compare a [.Gt] [b] pos) (bB (e2 gtD fa fb)) := at_cmp op_gt intCmpA ha hb (nomark _)
theorem at_ge (ha : AE X W a fa) (hb : AE X W b fb) : AT X W (.Compare a [.GtE] [b] pos) (bB (e2 geD fa fb)) := at_cmp op_ge intCmpA ha hb (nomark _)
theorem at_eq (cx : Ctx X W lv) (ha : AE X W a fa) (hb : AE X W b fb) : AT X W (.Compare a [.Eq] [b] pos) (bB (e2 eqD fa fb)) := at_cmp (op_eqD cx.room.units) eqA ha hb (nomark _)
theorem at_ne (cx : Ctx X W lv) (ha : AE X W a fa) (hb : AE X W b fb) : AT X W (.Compare a [.NotEq] [b] pos) (bB (e2 neD fa fb)) := at_cmp (op_neD cx.room.units) neA ha hb (nomark _)
theorem at_isN {j pos'} (ha : AE X W a fa) : AT X W (.Compare a [.Is] [.Constant .none j pos'] pos) (bB (e2 isND fa (eC .non))) := at_cmp op_isN isNA ha ae_non (nomark _)
theorem at_notN {j pos'} (ha : AE X W a fa) : AT X W (.Compare a [.IsNot] [.Constant .none j pos'] pos) (bB (e2 notND fa (eC .non))) := at_cmp op_notN notNA ha ae_non (nomark _)
/-- chains of ints -/
theorem ae_leLe (ha : AE X W a fa) (hb : AE X W b fb) (hc : AE X W c fc) (h1 : lastMarks [.LtE, .LtE] [b, c] = false := by rfl) : AE X W (.Compare a [.LtE, .LtE] [b, c] pos) (eChain leD leD fa fb fc) := ae_chain op_le intCmpA op_le intCmpA ha hb hc h1
theorem ae_leLt (ha : AE X W a fa) (hb : AE X W b fb) (hc : AE X W c fc) (h1 : lastMarks [.LtE, .Lt] [b, c] = false := by rfl) : AE X W (.Compare a [.LtE, .Lt] [b, c] pos) (eChain leD ltD fa fb fc) := ae_chain op_le intCmpA op_lt intCmpA ha hb hc h1
theorem ae_ltLt (ha : AE X W a fa) (hb : AE X W b fb) (hc : AE X W c fc) (h1 : lastMarks [.Lt, .Lt] [b, c] = false := by rfl) : AE X W (.Compare a [.Lt, .Lt] [b, c] pos) (eChain ltD ltD fa fb fc) := ae_chain op_lt intCmpA op_lt intCmpA ha hb hc h1
theorem at_leLe (ha : AE X W a fa) (hb : AE X W b fb) (hc : AE X W c fc) (h1 : lastMarks [.LtE, .LtE] [b, c] = false := by rfl) : AT X W (.Compare a [.LtE, .LtE] [b, c] pos) (bB (eChain leD leD fa fb fc)) := at_chain op_le intCmpA op_le intCmpA ha hb hc h1
theorem at_leLt (ha : AE X W a fa) (hb : AE X W b fb) (hc : AE X W c fc) (h1 : lastMarks [.LtE, .Lt] [b, c] = false := by rfl) : AT X W (.Compare a [.LtE, .Lt] [b, c] pos) (bB (eChain leD ltD fa fb fc)) := at_chain op_le intCmpA op_lt intCmpA ha hb hc h1
theorem at_ltLt (ha : AE X W a fa) (hb : AE X W b fb) (hc : AE X W c fc) (h1 : lastMarks [.Lt, .Lt] [b, c] = false := by rfl) : AT X W (.Compare a [.Lt, .Lt] [b, c] pos) (bB (eChain ltD ltD fa fb fc)) := at_chain op_lt intCmpA op_lt intCmpA ha hb hc h1
end
end TK

set_option Elab.async false
set_option linter.all false
set_option maxRecDepth 100000
set_option maxHeartbeats 4000000
namespace TK
open PySem PySem.Spec
open PyProof.Rows hiding St
open L2

/-! ## truth, and, or, not -/
def truD (d : D) (st : Store) : Option Bool := match d with
  | .non => some false
  | .bl b => some b
  | .int i => some (i != 0)
  | .tup ds => some (!ds.isEmpty)
  | .ref n => (seqOf (.ref n) st).map fun ds => !ds.isEmpty
  | _ => none
theorem truD_ok {G : GX} {μ : List Addr} {H : Hp} {st : Store} (hs : HS G μ H st) {d : D} {v : V} {b : Bool} (r : RelD G μ H d v) (e : truD d st = some b) : TruV G.K v H b := by
  have emp : ∀ {ds : List D} {vs : List V}, RelDs G μ H ds vs → (!ds.isEmpty) = !vs.isEmpty := fun {ds vs} rs => by
    cases ds with
    | nil => cases rs; rfl
    | cons d ds => obtain ⟨v, rest, rfl, _⟩ := rs; rfl
  cases d with
  | non => cases r; simp [truD] at e; show b = false; first | exact e | exact e.symm
  | bl k => cases r; simp [truD] at e; show b = k; first | exact e | exact e.symm
  | int i => cases r; simp only [truD, Option.some.injEq] at e; show b = (i != 0); first | exact e | exact e.symm
  | str _ => simp [truD] at e
  | cls _ => simp [truD] at e
  | tup ds => obtain ⟨a, vs, rfl, q, rs⟩ := r; simp only [truD, Option.some.injEq] at e; exact .inr (.inl ⟨vs, .of q, by rw [← e, emp rs]⟩)
  | ref n =>
    obtain ⟨a, e1, rfl⟩ := r
    simp only [truD, Option.map_eq_some_iff] at e
    obtain ⟨ds, e2, e3⟩ := e
    obtain ⟨vs, q, rs⟩ := hs.seq e1 e2
    exact .inl ⟨vs, q, by rw [← e3, emp rs]⟩
def bTru (fe : EF) : BF := fun env st => (fe env st).bind fun d st1 => match truD d st1 with
  | some b => .ok b st1
  | none => .bad
def bNot (fa : BF) : BF := fun env st => (fa env st).bind fun b st1 => .ok (!b) st1
def bAnd (fa fb : BF) : BF := fun env st => (fa env st).bind fun b st1 => if b then fb env st1 else .ok false st1
def bOr (fa fb : BF) : BF := fun env st => (fa env st).bind fun b st1 => if b then .ok true st1 else fb env st1
def eAnd (fa fb : EF) : EF := fun env st => (fa env st).bind fun d st1 => match truD d st1 with
  | some true => fb env st1
  | some false => .ok d st1
  | none => .bad
def eOr (fa fb : EF) : EF := fun env st => (fa env st).bind fun d st1 => match truD d st1 with
  | some false => fb env st1
  | some true => .ok d st1
  | none => .bad
def eNot (fa : EF) : EF := fun env st => (fa env st).bind fun d st1 => match truD d st1 with
  | some b => .ok (.bl (!b)) st1
  | none => .bad
def eIf (fc : BF) (fa fb : EF) : EF := fun env st => (fc env st).bind fun b st1 => if b then fa env st1 else fb env st1
section
variable {X : Cx} {W : WX} {a b c : Expr} {rest : List Expr} {fa fb fe : EF} {ga gb gc : BF} {pos : Pos} {lv : Nat}
/-- a comparison, a call .. as a test: its value's truth -/
theorem at_val (h : AE X W a fe) (he : ∀ whole, isTrue a X.env whole = (do let v ← whole; standAt a.pos; holding [v] (truthy v)) := by intro _; rfl) : AT X W a (bTru fe) :=
  (pt_truth h he).weak fun σ H Q ⟨μ, env, st, hs, er, p⟩ => ⟨μ, env, st, hs, er, Post.bind p fun d st1 μ1 H1 v _ x1 hs1 r1 p1 => by
    split at p1
    · rename_i k e; exact ⟨k, truD_ok hs1 r1 e, p1 μ1 H1 _ .refl hs1 rfl⟩
    · exact p1.elim⟩
theorem at_not (ha : AT X W a ga) : AT X W (.UnaryOp .Not a pos) (bNot ga) := (pt_not ha).weak fun σ H Q ⟨μ, env, st, hs, er, p⟩ => ⟨μ, env, st, hs, er, Post.bind p fun d st1 μ1 H1 v _ x1 hs1 r1 p1 => by
  have r1 : v = d := r1
  subst r1
  exact p1 μ1 H1 _ .refl hs1 rfl⟩
abbrev AW (X : Cx) (W : WX) (e : Expr) (f : BF) : Prop := PW X e (tG (gx X) W relB f)
theorem aw_and1 (ha : AT X W a ga) : AW X W (.BoolOp .And [a] pos) ga := pw_and1 ha
theorem aw_or1 (ha : AT X W a ga) : AW X W (.BoolOp .Or [a] pos) ga := pw_or1 ha
theorem aw_and (ha : AT X W a ga) (hb : AW X W (.BoolOp .And (b :: rest) pos) gb) : AW X W (.BoolOp .And (a :: b :: rest) pos) (bAnd ga gb) := (pw_and ha hb).weak fun σ H Q ⟨μ, env, st, hs, er, p⟩ => ⟨μ, env, st, hs, er, Post.bind p fun d st1 μ1 H1 v _ x1 hs1 r1 p1 => by
  have r1 : v = d := r1
  subst r1
  cases v with
  | true => rw [if_pos rfl]; exact ⟨μ1, env, st1, hs1, er.ext hs x1, p1⟩
  | false => rw [if_neg (by decide)]; exact p1 μ1 H1 _ .refl hs1 rfl⟩
theorem aw_or (ha : AT X W a ga) (hb : AW X W (.BoolOp .Or (b :: rest) pos) gb) : AW X W (.BoolOp .Or (a :: b :: rest) pos) (bOr ga gb) := (pw_or ha hb).weak fun σ H Q ⟨μ, env, st, hs, er, p⟩ => ⟨μ, env, st, hs, er, Post.bind p fun d st1 μ1 H1 v _ x1 hs1 r1 p1 => by
  have r1 : v = d := r1
  subst r1
  cases v with
  | true => rw [if_pos rfl]; exact p1 μ1 H1 _ .refl hs1 rfl
  | false => rw [if_neg (by decide)]; exact ⟨μ1, env, st1, hs1, er.ext hs x1, p1⟩⟩
theorem at_w (h : AW X W a ga) : AT X W a ga := h.pt
/-- as values -/
theorem ae_one {op} (h : AE X W a fa) : AE X W (.BoolOp op [a] pos) fa := pe_one h
theorem ae_and (ha : AE X W a fa) (hb : AE X W (.BoolOp .And (b :: rest) pos) fb) : AE X W (.BoolOp .And (a :: b :: rest) pos) (eAnd fa fb) := (pe_andT ha hb).weak fun σ H Q ⟨μ, env, st, hs, er, p⟩ => ⟨μ, env, st, hs, er, Post.bind p fun d st1 μ1 H1 v _ x1 hs1 r1 p1 => by
  split at p1
  · rename_i e; exact ⟨true, truD_ok hs1 r1 e, by rw [if_pos rfl]; exact ⟨μ1, env, st1, hs1, er.ext hs x1, p1⟩⟩
  · rename_i e; exact ⟨false, truD_ok hs1 r1 e, by rw [if_neg (by decide)]; exact p1 μ1 H1 _ .refl hs1 r1⟩
  · exact p1.elim⟩
theorem ae_or (ha : AE X W a fa) (hb : AE X W (.BoolOp .Or (b :: rest) pos) fb) : AE X W (.BoolOp .Or (a :: b :: rest) pos) (eOr fa fb) := (pe_orT ha hb).weak fun σ H Q ⟨μ, env, st, hs, er, p⟩ => ⟨μ, env, st, hs, er, Post.bind p fun d st1 μ1 H1 v _ x1 hs1 r1 p1 => by
  split at p1
  · rename_i e; exact ⟨false, truD_ok hs1 r1 e, by rw [if_neg (by decide)]; exact ⟨μ1, env, st1, hs1, er.ext hs x1, p1⟩⟩
  · rename_i e; exact ⟨true, truD_ok hs1 r1 e, by rw [if_pos rfl]; exact p1 μ1 H1 _ .refl hs1 r1⟩
  · exact p1.elim⟩
theorem ae_not (ha : AE X W a fa) : AE X W (.UnaryOp .Not a pos) (eNot fa) := (pe_notT ha).weak fun σ H Q ⟨μ, env, st, hs, er, p⟩ => ⟨μ, env, st, hs, er, Post.bind p fun d st1 μ1 H1 v _ x1 hs1 r1 p1 => by
  split at p1
  · rename_i b e; exact ⟨b, truD_ok hs1 r1 e, p1 μ1 H1 _ .refl hs1 rfl⟩
  · exact p1.elim⟩
theorem ae_if (hc : AT X W c gc) (ha : AE X W a fa) (hb : AE X W b fb) : AE X W (.IfExp c a b pos) (eIf gc fa fb) := (pe_ifExp hc ha hb).weak fun σ H Q ⟨μ, env, st, hs, er, p⟩ => ⟨μ, env, st, hs, er, Post.bind p fun d st1 μ1 H1 v _ x1 hs1 r1 p1 => by
  have r1 : v = d := r1
  subst r1
  cases v with
  | true => rw [if_pos rfl]; exact ⟨μ1, env, st1, hs1, er.ext hs x1, p1⟩
  | false => rw [if_neg (by decide)]; exact ⟨μ1, env, st1, hs1, er.ext hs x1, p1⟩⟩
end

/-! ## displays -/
def eTup (fr : LF) : EF := fun env st => (fr env st).bind fun ds st1 => if ds.length ≤ sizeLine then .ok (.tup ds) st1 else .bad
def lLst (fr : LF) : LF := fun env st => (fr env st).bind fun ds st1 => if ds.length ≤ sizeLine then .ok ds st1 else .bad
/-- a list as a value: an object of the store -/
def eLst (fl : LF) : EF := fun env st => (fl env st).bind fun ds st1 => .ok (.ref st1.length) (st1 ++ [.lst ds])
/-- a list or tuple read -/
def lRd (fe : EF) : LF := fun env st => (fe env st).bind fun d st1 => match seqOf d st1 with
  | some ds => .ok ds st1
  | none => .bad
/-- a list of the store alone -/
def lRef (fe : EF) : LF := fun env st => (fe env st).bind fun d st1 => match d with
  | .ref n => (match st1[n]? with
    | some (.lst ds) => .ok ds st1
    | _ => .bad)
  | _ => .bad
/-- a list, tracked -/
abbrev relM (G : GX) : RelT (List D) V := ⟨fun _ μ H ds v => ∃ a vs, v = .ref a ∧ H a = some (.lst vs) ∧ RelDs G μ H ds vs, fun _ _ r => r⟩
abbrev AM (X : Cx) (W : WX) (e : Expr) (f : LF) : Prop := PE X e (tG (gx X) W (relM (gx X)) f)
section
variable {X : Cx} {W : WX} {a b c e : Expr} {es : List Expr} {fa fb fe : EF} {fl fl' fr : LF} {pos : Pos} {lv : Nat}
theorem ae_tup {k} (h : AA X W es fr) : AE X W (.Tuple es k pos) (eTup fr) := (pe_tup h).weak fun σ H Q ⟨μ, env, st, hs, er, p⟩ => ⟨μ, env, st, hs, er, Post.bind p fun ds st1 μ1 H1 vs _ x1 hs1 r1 p1 => by
  split at p1
  · rename_i hz
    exact ⟨by rw [RelDs.length r1]; exact hz, fun q hq => p1 μ1 _ _ (.new hq) (hs1.new hq) ⟨q, vs, rfl, upd_same, RelDs.ext hs1 (.new hq) _ _ r1⟩⟩
  · exact p1.elim⟩
theorem al_lst (h : AA X W es fr) : AL X W (.List es pos) (lLst fr) := (pe_lst h).weak fun σ H Q ⟨μ, env, st, hs, er, p⟩ => ⟨μ, env, st, hs, er, Post.bind0 p fun ds st1 μ1 H1 vs _ x1 hs1 r1 p1 => by
  split at p1
  · rename_i hz
    refine ⟨by rw [RelDs.length r1]; exact hz, fun q hq => p1 μ1 _ _ (x1.trans (.new hq)) (hs1.new hq) ⟨q, vs, rfl, Ext.back x1 .refl (hs1.fresh hq) hq, hs1.fresh hq, upd_same, RelDs.ext hs1 (.new hq) _ _ r1⟩⟩
  · exact p1.elim⟩
theorem Ext.adopt {μ μ1 : List Addr} {H H1 : Hp} {a : Addr} (x : Ext μ H μ1 H1) (h0 : H a = none) (hn : a ∉ μ1) : Ext μ H (μ1 ++ [a]) H1 := by
  obtain ⟨ν, rfl, f, k⟩ := x
  refine ⟨ν ++ [a], by simp, fun c hc => ?_, k⟩
  rcases List.mem_append.mp hc with h | h
  · exact f c h
  · simp at h; subst h; exact ⟨h0, fun z => hn (List.mem_append_left _ z)⟩
theorem ae_ofL (h : AL X W e fl) : AE X W e (eLst fl) := h.weak fun σ H Q ⟨μ, env, st, hs, er, p⟩ => ⟨μ, env, st, hs, er, Post.bind0 p fun ds st1 μ1 H1 v _ x1 hs1 r1 p1 => by
  obtain ⟨a, vs, rfl, h0, hn, hv, rs⟩ := r1
  refine p1 (μ1 ++ [a]) H1 _ (x1.adopt h0 hn) (hs1.adopt hv hn ⟨vs, rfl, rs⟩) ⟨a, ?_, rfl⟩
  rw [← hs1.len, List.getElem?_append_right (Nat.le_refl _)]; simp⟩
theorem aq_ofE (h : AE X W e fe) : AQ X W e (lRd fe) := h.weak fun σ H Q ⟨μ, env, st, hs, er, p⟩ => ⟨μ, env, st, hs, er, Post.bind p fun d st1 μ1 H1 v _ x1 hs1 r1 p1 => by
  split at p1
  · rename_i ds e1
    refine p1 μ1 H1 v .refl hs1 ?_
    cases d with
    | tup ds' => obtain ⟨a, vs, rfl, q, rs⟩ := r1; simp [seqOf] at e1; subst e1; exact ⟨a, vs, rfl, .inr q, rs⟩
    | ref n => obtain ⟨a, e2, rfl⟩ := r1; obtain ⟨vs, q, rs⟩ := hs1.seq e2 e1; exact ⟨a, vs, rfl, .inl q, rs⟩
    | _ => simp [seqOf] at e1
  · exact p1.elim⟩
theorem aq_ofL (h : AL X W e fl) : AQ X W e fl := h.weak fun σ H Q ⟨μ, env, st, hs, er, p⟩ => ⟨μ, env, st, hs, er, by
  cases q : fl env st with
  | ok ds st1 => rw [q] at p; intro μ1 H1 v x1 hs1 r1; obtain ⟨a, vs, rfl, h0, hn, hv, rs⟩ := r1; exact p μ1 H1 _ x1 hs1 ⟨a, vs, rfl, .inl (.of hv), rs⟩
  | exc x s => rw [q] at p; exact p
  | bad => rw [q] at p; exact p⟩
theorem am_ofL (h : AL X W e fl) : AM X W e fl := h.weak fun σ H Q ⟨μ, env, st, hs, er, p⟩ => ⟨μ, env, st, hs, er, by
  cases q : fl env st with
  | ok ds st1 => rw [q] at p; intro μ1 H1 v x1 hs1 r1; obtain ⟨a, vs, rfl, h0, hn, hv, rs⟩ := r1; exact p μ1 H1 _ x1 hs1 ⟨a, vs, rfl, hv, rs⟩
  | exc x s => rw [q] at p; exact p
  | bad => rw [q] at p; exact p⟩
theorem am_ofE (h : AE X W e fe) : AM X W e (lRef fe) := h.weak fun σ H Q ⟨μ, env, st, hs, er, p⟩ => ⟨μ, env, st, hs, er, Post.bind p fun d st1 μ1 H1 v _ x1 hs1 r1 p1 => by
  cases d with
  | ref n =>
    simp only at p1
    obtain ⟨a, e1, rfl⟩ := r1
    split at p1
    · rename_i ds e2
      obtain ⟨_, hv, vs, rfl, rs⟩ := hs1.obj n a _ e1 e2
      exact p1 μ1 H1 _ .refl hs1 ⟨a, vs, rfl, hv, rs⟩
    · exact p1.elim
  | _ => exact p1.elim⟩
/-- [..] + [..] -/
def lCat (fl fl' : LF) : LF := fun env st => (fl env st).bind fun xs st1 => (fl' env st1).bind fun ys st2 => if xs.length + ys.length ≤ sizeLine then .ok (xs ++ ys) st2 else .bad

/-! ## subscripts -/
def getD (x y : D) (st : Store) : R D := match y with
  | .int i => (match x with
    | .str z => if z.length ≤ sizeLine then (match atI z.cps.toList i with
      | some c => .ok (.str ⟨#[c]⟩) st
      | none => .bad) else .bad
    | x => match seqOf x st with
      | some ds => (match atI ds i with
        | some d => .ok d st
        | none => .bad)
      | none => .bad)
  | _ => .bad
theorem RelDs.at {G : GX} {μ : List Addr} {H : Hp} {ds : List D} {vs : List V} {i : Int} {d : D} (r : RelDs G μ H ds vs) (e : atI ds i = some d) : ∃ v, atI vs i = some v ∧ RelD G μ H d v := by
  unfold atI at e ⊢
  rw [r.length]
  cases q : ixN ds.length i with
  | none => rw [q] at e; cases e
  | some j => rw [q] at e; exact r.get e
theorem getA {G : GX} : OpA G getD (rIx G.K) := by
  intro W σ μ H st x y v u Q hs rx ry p
  unfold getD at p
  split at p
  · cases ry
    split at p
    · cases rx
      split at p
      · rename_i hz
        split at p
        · rename_i c ec; exact .inr (.inr ⟨_, _, c, rfl, rfl, hz, ec, p μ H _ .refl hs rfl⟩)
        · exact p.elim
      · exact p.elim
    · split at p
      · rename_i ds eq
        split at p
        · rename_i d ed
          cases x with
          | tup ds' =>
            obtain ⟨a, vs, rfl, q, rs⟩ := rx
            simp [seqOf] at eq; subst eq
            obtain ⟨v, ev, rd⟩ := rs.at ed
            exact .inr (.inl ⟨a, vs, _, v, rfl, rfl, .of q, ev, p μ H v .refl hs rd⟩)
          | ref n =>
            obtain ⟨a, ea, rfl⟩ := rx
            obtain ⟨vs, q, rs⟩ := hs.seq ea eq
            obtain ⟨v, ev, rd⟩ := rs.at ed
            exact .inl ⟨a, vs, _, v, rfl, rfl, q, ev, p μ H v .refl hs rd⟩
          | _ => simp [seqOf] at eq
        · exact p.elim
      · exact p.elim
  · exact p.elim
theorem ae_get (ha : AE X W a fa) (hb : AE X W b fb) (hp : PlainIx b := by exact fun _ _ => rfl) : AE X W (.Subscript a b pos) (e2 getD fa fb) := (pe_ix ix_seq ha hb hp).weak fun _ _ _ h => t2_of getA h
end
end TK

set_option Elab.async false
set_option linter.all false
set_option maxRecDepth 100000
set_option maxHeartbeats 4000000
namespace TK
open PySem PySem.Spec
open PyProof.Rows hiding St
open L2

/-! ## fields -/
def eFld (cs : List Str) (f : Str) (fe : EF) : EF := fun env st => (fe env st).bind fun d st1 => match d with
  | .ref n => (match st1[n]? with
    | some (.ins c fs) => if c ∈ cs then (match fs.lookup f with
      | some d => .ok d st1
      | none => .bad) else .bad
    | _ => .bad)
  | _ => .bad
/-- what is known of a class -/
structure ClsA (G : GX) (c : Str) (fs : List Str) : Prop where
  ok : ∀ C, G.mg c = some (.ref C) → Cls G.K C ∧ ∀ f ∈ fs, NoAttr G.K C f
theorem RelF.look {G : GX} {μ : List Addr} {H : Hp} : ∀ {fs : List (Str × D)} {vs : List (Str × V)} {f : Str} {d : D}, RelF G μ H fs vs → fs.lookup f = some d → ∃ v, vs.lookup f = some v ∧ RelD G μ H d v
  | [], _, _, _, _, e => by simp at e
  | (x, d) :: fs, _, f, d', r, e => by
    obtain ⟨v, rest, rfl, rd, rs⟩ := r
    rw [List.lookup_cons] at e ⊢
    split at e
    · cases e; exact ⟨v, rfl, rd⟩
    · exact RelF.look rs e
def putFD (f : Str) (y : D) : List (Str × D) → List (Str × D)
  | [] => [(f, y)]
  | (x, d) :: fs => if x = f then (x, y) :: fs else (x, d) :: putFD f y fs
section
variable {X : Cx} {W : WX} {a b c e o : Expr} {es : List Expr} {fa fb fe fo : EF} {fl fl' fr : LF} {pos pos' : Pos} {lv : Nat}
theorem ae_fld (cs : List Str) {f : Str} (he : AE X W e fe) (hc : ∀ c ∈ cs, ∃ l, ClsA (gx X) c l ∧ f ∈ l) (hb : attributeBase e f X.env (eval e X.env) = eval e X.env := by rfl) : AE X W (.Attribute e f pos) (eFld cs f fe) :=
  (pe_fld he hb).weak fun σ H Q ⟨μ, env, st, hs, er, p⟩ => ⟨μ, env, st, hs, er, Post.bind p fun d st1 μ1 H1 v _ x1 hs1 r1 p1 => by
    cases d with
    | ref n =>
      simp only at p1
      obtain ⟨a, e1, rfl⟩ := r1
      split at p1
      · rename_i c fs e2
        split at p1
        · rename_i hcs
          split at p1
          · rename_i d e3
            obtain ⟨_, h1, C, dx, vs, rfl, hm, rf⟩ := hs1.obj n a _ e1 e2
            obtain ⟨l, k, hf⟩ := hc c hcs
            obtain ⟨k1, k2⟩ := k.ok C hm
            obtain ⟨v, e4, rd⟩ := rf.look e3
            exact ⟨a, C, dx, vs, v, rfl, h1, k1, k2 f hf, e4, p1 μ1 H1 v .refl hs1 rd⟩
          · exact p1.elim
        · exact p1.elim
      · exact p1.elim
    | _ => exact p1.elim⟩

/-! ## calls of what Python brings -/
def eB (g : List D → Store → R D) (fr : LF) : EF := fun env st => (fr env st).bind g
/-- by plain arguments -/
def CalA (G : GX) (g : List D → Store → R D) (r : List V → Hp → VK → Prop) : Prop := ∀ W σ μ H st ds vs Q, HS G μ H st → RelDs G μ H ds vs → Post G W (relD G) σ μ H (g ds st) Q → r vs H Q
theorem ae_callB {id : String} {r : List V → Hp → VK → Prop} {g : List D → Store → R D} {x : Str} {p : Pos} (hc : CallR X (.builtin id) r) (hg' : CalA (gx X) g r) (hm : X.mg x = none) (hv : bootBuiltins x = some (.builtin id)) (ha : AA X W (e :: es) fr)
    (hg : Gl X x := by rfl) (hn : x ≠ "__name__" := by decide) (hdb : (x == ("__debug__" : Str)) = false := by decide) (he : starEach (e :: es) X.env = (false, eval e X.env) :: starEach es X.env := by rfl) (hpl : (backTo pos (starEach es X.env)).any (·.1) = false := by rfl) :
    AE X W (.Call (.Name x p) (e :: es) [] pos) (eB g fr) := (pe_callB hc hg hm hv ha hn hdb he hpl).weak fun σ H Q ⟨μ, env, st, hs, er, q⟩ => ⟨μ, env, st, hs, er, Post.bind q fun ds st1 μ1 H1 vs _ x1 hs1 r1 p1 => hg' W σ μ1 H1 st1 ds vs Q hs1 r1 p1⟩
theorem ae_callTy {T : String} {r : List V → Hp → VK → Prop} {g : List D → Store → R D} {x : Str} {p : Pos} (hc : CallR X (.type T) r) (hg' : CalA (gx X) g r) (hm : X.mg x = none) (hv : bootBuiltins x = some (.type T)) (ha : AA X W (e :: es) fr)
    (hg : Gl X x := by rfl) (hn : x ≠ "__name__" := by decide) (hdb : (x == ("__debug__" : Str)) = false := by decide) (he : starEach (e :: es) X.env = (false, eval e X.env) :: starEach es X.env := by rfl) (hpl : (backTo pos (starEach es X.env)).any (·.1) = false := by rfl) :
    AE X W (.Call (.Name x p) (e :: es) [] pos) (eB g fr) := (pe_callTy hc hg hm hv ha hn hdb he hpl).weak fun σ H Q ⟨μ, env, st, hs, er, q⟩ => ⟨μ, env, st, hs, er, Post.bind q fun ds st1 μ1 H1 vs _ x1 hs1 r1 p1 => hg' W σ μ1 H1 st1 ds vs Q hs1 r1 p1⟩
/-- by one list or tuple that is read -/
def CalQ {α : Type} (G : GX) (rel' : RelT (List D) V) (rel : RelT α V) (g : List D → Store → R α) (r : List V → Hp → VK → Prop) : Prop :=
  ∀ W σ μ0 H0 μ H st ds v Q, Ext μ0 H0 μ H → HS G μ H st → rel'.r H0 μ H ds v → Post G W rel σ μ0 H0 (g ds st) Q → r [v] H Q
theorem p_callB {α : Type} {rel : RelT α V} {rel' : RelT (List D) V} {id : String} {r : List V → Hp → VK → Prop} {g : List D → Store → R α} {x : Str} {p : Pos} (hc : CallR X (.builtin id) r) (hg' : CalQ (gx X) rel' rel g r) (hm : X.mg x = none) (hv : bootBuiltins x = some (.builtin id))
    (ha : PE X e (tG (gx X) W rel' fl)) (hg : Gl X x := by rfl) (hn : x ≠ "__name__" := by decide) (hdb : (x == ("__debug__" : Str)) = false := by decide) (he : starEach [e] X.env = (false, eval e X.env) :: starEach [] X.env := by rfl) :
    PE X (.Call (.Name x p) [e] [] pos) (tG (gx X) W rel fun env st => (fl env st).bind g) := (pe_callB hc hg hm hv (pa_cons ha pa_nil he) hn hdb he rfl).weak fun σ H Q ⟨μ, env, st, hs, er, q⟩ =>
      ⟨μ, env, st, hs, er, Post.bind0 q fun ds st1 μ1 H1 v _ x1 hs1 r1 p1 => hg' W σ μ H μ1 H1 st1 ds v Q x1 hs1 r1 p1⟩
theorem p_callTy {α : Type} {rel : RelT α V} {rel' : RelT (List D) V} {T : String} {r : List V → Hp → VK → Prop} {g : List D → Store → R α} {x : Str} {p : Pos} (hc : CallR X (.type T) r) (hg' : CalQ (gx X) rel' rel g r) (hm : X.mg x = none) (hv : bootBuiltins x = some (.type T))
    (ha : PE X e (tG (gx X) W rel' fl)) (hg : Gl X x := by rfl) (hn : x ≠ "__name__" := by decide) (hdb : (x == ("__debug__" : Str)) = false := by decide) (he : starEach [e] X.env = (false, eval e X.env) :: starEach [] X.env := by rfl) :
    PE X (.Call (.Name x p) [e] [] pos) (tG (gx X) W rel fun env st => (fl env st).bind g) := (pe_callTy hc hg hm hv (pa_cons ha pa_nil he) hn hdb he rfl).weak fun σ H Q ⟨μ, env, st, hs, er, q⟩ =>
      ⟨μ, env, st, hs, er, Post.bind0 q fun ds st1 μ1 H1 v _ x1 hs1 r1 p1 => hg' W σ μ H μ1 H1 st1 ds v Q x1 hs1 r1 p1⟩
def eQ (g : List D → Store → R D) (fl : LF) : EF := fun env st => (fl env st).bind g
def lQ (g : List D → Store → R (List D)) (fl : LF) : LF := fun env st => (fl env st).bind g

/- len -/
def lenG (ds : List D) (st : Store) : R D := .ok (.int ds.length) st
theorem lenQ {G : GX} : CalQ G (relQ G) (relD G) lenG (fun xs H Q => ∃ p ys, xs = [.ref p] ∧ (SqL G.K H p ys ∨ SqT G.K H p ys) ∧ Q (.int ys.length) H) := by
  intro W σ μ0 H0 μ H st ds v Q x hs r p
  obtain ⟨a, vs, rfl, q, rs⟩ := r
  exact ⟨a, vs, rfl, q.imp id .of, by rw [rs.length]; exact p μ H _ x hs rfl⟩
theorem ae_len {p : Pos} (hm : X.mg "len" = none) (ha : AQ X W e fl) (hg : Gl X "len" := by rfl) (he : starEach [e] X.env = (false, eval e X.env) :: starEach [] X.env := by rfl) : AE X W (.Call (.Name "len" p) [e] [] pos) (eQ lenG fl) :=
  p_callB call_len_seq lenQ hm PySem.boot_len ha hg (he := he)
/- tuple(..) of a list -/
def tupG (ds : List D) (st : Store) : R D := .ok (.tup ds) st
theorem tupQ {G : GX} : CalQ G (relQ G) (relD G) tupG (fun xs H Q => ∃ p ys, xs = [.ref p] ∧ ((SqL G.K H p ys ∧ ∀ l, H l = none → Q (.ref l) (upd H l (.tup ys))) ∨ (SqT G.K H p ys ∧ Q (.ref p) H))) := by
  intro W σ μ0 H0 μ H st ds v Q x hs r p
  obtain ⟨a, vs, rfl, q, rs⟩ := r
  refine ⟨a, vs, rfl, ?_⟩
  rcases q with q | q
  · exact .inl ⟨q, fun l hl => p μ _ _ (x.trans (.new hl)) (hs.new hl) ⟨l, vs, rfl, upd_same, RelDs.ext hs (.new hl) _ _ rs⟩⟩
  · exact .inr ⟨.of q, p μ H _ x hs ⟨a, vs, rfl, q, rs⟩⟩
theorem ae_tuple {p : Pos} (hm : X.mg "tuple" = none) (ha : AQ X W e fl) (hg : Gl X "tuple" := by rfl) (he : starEach [e] X.env = (false, eval e X.env) :: starEach [] X.env := by rfl) : AE X W (.Call (.Name "tuple" p) [e] [] pos) (eQ tupG fl) :=
  p_callTy call_tuple_of tupQ hm (by decide +kernel) ha hg (he := he)
/- list(..) -/
def lstG (ds : List D) (st : Store) : R (List D) := .ok ds st
theorem lstQ {G : GX} : CalQ G (relQ G) (relL G) lstG (fun xs H Q => ∃ p ys, xs = [.ref p] ∧ (SqL G.K H p ys ∨ SqT G.K H p ys) ∧ ∀ l, H l = none → Q (.ref l) (upd H l (.lst ys))) := by
  intro W σ μ0 H0 μ H st ds v Q x hs r p
  obtain ⟨a, vs, rfl, q, rs⟩ := r
  refine ⟨a, vs, rfl, q.imp id .of, fun l hl => p μ _ _ (x.trans (.new hl)) (hs.new hl) ⟨l, vs, rfl, Ext.back x .refl (hs.fresh hl) hl, hs.fresh hl, upd_same, RelDs.ext hs (.new hl) _ _ rs⟩⟩
theorem al_list {p : Pos} (hm : X.mg "list" = none) (ha : AQ X W e fl) (hg : Gl X "list" := by rfl) (he : starEach [e] X.env = (false, eval e X.env) :: starEach [] X.env := by rfl) : AL X W (.Call (.Name "list" p) [e] [] pos) (lQ lstG fl) :=
  p_callTy call_list_of lstQ hm (by decide +kernel) ha hg (he := he)
/- all, any -/
def boolsOf : List D → Option (List Bool)
  | [] => some []
  | .bl b :: ds => (boolsOf ds).map (b :: ·)
  | _ :: _ => none
theorem boolsOf_ok {G : GX} {μ : List Addr} {H : Hp} : ∀ {ds : List D} {vs : List V} {bs : List Bool}, RelDs G μ H ds vs → boolsOf ds = some bs → vs = bs.map V.bl
  | [], _, bs, r, e => by cases r; simp [boolsOf] at e; subst e; rfl
  | d :: ds, _, bs, r, e => by
    obtain ⟨v, rest, rfl, rd, rs⟩ := r
    cases d with
    | bl b =>
      cases rd
      simp only [boolsOf, Option.map_eq_some_iff] at e
      obtain ⟨bs', e1, rfl⟩ := e
      rw [boolsOf_ok rs e1]; rfl
    | _ => simp [boolsOf] at e
@[simp] theorem boolsOf_map {α : Type} (f : α → Bool) : ∀ xs : List α, boolsOf (xs.map fun x => .bl (f x)) = some (xs.map f)
  | [] => rfl
  | x :: xs => by simp [boolsOf, boolsOf_map f xs]
def allG (ds : List D) (st : Store) : R D := match boolsOf ds with
  | some bs => .ok (.bl (bs.all id)) st
  | none => .bad
def anyG (ds : List D) (st : Store) : R D := match boolsOf ds with
  | some bs => .ok (.bl (bs.any id)) st
  | none => .bad
theorem allQ {G : GX} : CalQ G (relM G) (relD G) allG (rAll G.K) := by
  intro W σ μ0 H0 μ H st ds v Q x hs r p
  obtain ⟨a, vs, rfl, q, rs⟩ := r
  unfold allG at p
  split at p
  · rename_i bs e; exact ⟨a, bs, rfl, .of (by rw [q, boolsOf_ok rs e]), p μ H _ x hs rfl⟩
  · exact p.elim
theorem anyQ {G : GX} : CalQ G (relM G) (relD G) anyG (rAny G.K) := by
  intro W σ μ0 H0 μ H st ds v Q x hs r p
  obtain ⟨a, vs, rfl, q, rs⟩ := r
  unfold anyG at p
  split at p
  · rename_i bs e; exact ⟨a, bs, rfl, .of (by rw [q, boolsOf_ok rs e]), p μ H _ x hs rfl⟩
  · exact p.elim
theorem ae_all {p : Pos} (cx : Ctx X W lv) (hm : X.mg "all" = none) (ha : AM X W e fl) (hg : Gl X "all" := by rfl) (he : starEach [e] X.env = (false, eval e X.env) :: starEach [] X.env := by rfl) : AE X W (.Call (.Name "all" p) [e] [] pos) (eQ allG fl) :=
  p_callB (cr_all cx.calm) allQ hm (by decide +kernel) ha hg (he := he)
theorem ae_any {p : Pos} (cx : Ctx X W lv) (hm : X.mg "any" = none) (ha : AM X W e fl) (hg : Gl X "any" := by rfl) (he : starEach [e] X.env = (false, eval e X.env) :: starEach [] X.env := by rfl) : AE X W (.Call (.Name "any" p) [e] [] pos) (eQ anyG fl) :=
  p_callB (cr_any cx.calm) anyQ hm (by decide +kernel) ha hg (he := he)
/- sum, min, max, sorted: ints -/
def intsOf : List D → Option (List Int)
  | [] => some []
  | .int i :: ds => (intsOf ds).map (i :: ·)
  | _ :: _ => none
theorem intsOf_ok {G : GX} {μ : List Addr} {H : Hp} : ∀ {ds : List D} {vs : List V} {bs : List Int}, RelDs G μ H ds vs → intsOf ds = some bs → vs = bs.map V.int
  | [], _, bs, r, e => by cases r; simp [intsOf] at e; subst e; rfl
  | d :: ds, _, bs, r, e => by
    obtain ⟨v, rest, rfl, rd, rs⟩ := r
    cases d with
    | int b =>
      cases rd
      simp only [intsOf, Option.map_eq_some_iff] at e
      obtain ⟨bs', e1, rfl⟩ := e
      rw [intsOf_ok rs e1]; rfl
    | _ => simp [intsOf] at e
@[simp] theorem intsOf_map {α : Type} (f : α → Int) : ∀ xs : List α, intsOf (xs.map fun x => .int (f x)) = some (xs.map f)
  | [] => rfl
  | x :: xs => by simp [intsOf, intsOf_map f xs]
theorem intsRel {G : GX} {μ : List Addr} {H : Hp} : ∀ ns : List Int, RelDs G μ H (ns.map D.int) (ns.map V.int)
  | [] => rfl
  | n :: ns => ⟨_, _, rfl, rfl, intsRel ns⟩
def sumG (ds : List D) (st : Store) : R D := match intsOf ds with
  | some bs => .ok (.int bs.sum) st
  | none => .bad
theorem sumQ {G : GX} : CalQ G (relM G) (relD G) sumG (rSum G.K) := by
  intro W σ μ0 H0 μ H st ds v Q x hs r p
  obtain ⟨a, vs, rfl, q, rs⟩ := r
  unfold sumG at p
  split at p
  · rename_i bs e; exact ⟨a, bs, rfl, .of (by rw [q, intsOf_ok rs e]), p μ H _ x hs rfl⟩
  · exact p.elim
theorem ae_sum {p : Pos} (cx : Ctx X W lv) (hm : X.mg "sum" = none) (ha : AM X W e fl) (hg : Gl X "sum" := by rfl) (he : starEach [e] X.env = (false, eval e X.env) :: starEach [] X.env := by rfl) : AE X W (.Call (.Name "sum" p) [e] [] pos) (eQ sumG fl) :=
  p_callB (cr_sum cx.calm) sumQ hm (by decide +kernel) ha hg (he := he)
def maxI : List Int → Int
  | [] => 0
  | [x] => x
  | x :: xs => max x (maxI xs)
def minI : List Int → Int
  | [] => 0
  | [x] => x
  | x :: xs => min x (minI xs)
theorem maxI_le : ∀ (xs : List Int) (y : Int), y ∈ xs → y ≤ maxI xs
  | [], _, h => by simp at h
  | [x], y, h => by simp at h; subst h; exact Int.le_refl _
  | x :: z :: xs, y, h => by
    show y ≤ max x (maxI (z :: xs))
    rcases List.mem_cons.mp h with h | h
    · omega
    · have := maxI_le (z :: xs) y h; omega
theorem maxI_mem : ∀ (xs : List Int), xs ≠ [] → maxI xs ∈ xs
  | [], h => absurd rfl h
  | [x], _ => by simp [maxI]
  | x :: z :: xs, _ => by
    have := maxI_mem (z :: xs) (by simp)
    show max x (maxI (z :: xs)) ∈ _
    by_cases h : x ≤ maxI (z :: xs)
    · rw [Int.max_eq_right h]; exact List.mem_cons_of_mem _ this
    · rw [Int.max_eq_left (by omega)]; exact List.mem_cons_self
theorem minI_le : ∀ (xs : List Int) (y : Int), y ∈ xs → minI xs ≤ y
  | [], _, h => by simp at h
  | [x], y, h => by simp at h; subst h; exact Int.le_refl _
  | x :: z :: xs, y, h => by
    show min x (minI (z :: xs)) ≤ y
    rcases List.mem_cons.mp h with h | h
    · omega
    · have := minI_le (z :: xs) y h; omega
theorem minI_mem : ∀ (xs : List Int), xs ≠ [] → minI xs ∈ xs
  | [], h => absurd rfl h
  | [x], _ => by simp [minI]
  | x :: z :: xs, _ => by
    have := minI_mem (z :: xs) (by simp)
    show min x (minI (z :: xs)) ∈ _
    by_cases h : x ≤ minI (z :: xs)
    · rw [Int.min_eq_left h]; exact List.mem_cons_self
    · rw [Int.min_eq_right (by omega)]; exact List.mem_cons_of_mem _ this
def maxG (ds : List D) (st : Store) : R D := match intsOf ds with
  | some bs => if bs.isEmpty then .bad else .ok (.int (maxI bs)) st
  | none => .bad
def minG (ds : List D) (st : Store) : R D := match intsOf ds with
  | some bs => if bs.isEmpty then .bad else .ok (.int (minI bs)) st
  | none => .bad
theorem maxQ {G : GX} : CalQ G (relM G) (relD G) maxG (rMax G.K) := by
  intro W σ μ0 H0 μ H st ds v Q x hs r p
  obtain ⟨a, vs, rfl, q, rs⟩ := r
  unfold maxG at p
  split at p
  · rename_i bs e
    split at p
    · exact p.elim
    · rename_i hne
      have hne : bs ≠ [] := by simpa using hne
      refine ⟨a, bs, rfl, .of (by rw [q, intsOf_ok rs e]), List.length_pos_iff.mpr hne, fun m h1 h2 => ?_⟩
      have : m = maxI bs := Int.le_antisymm (maxI_le bs m h1) (h2 _ (maxI_mem bs hne))
      subst this
      exact p μ H _ x hs rfl
  · exact p.elim
theorem minQ {G : GX} : CalQ G (relM G) (relD G) minG (rMin G.K) := by
  intro W σ μ0 H0 μ H st ds v Q x hs r p
  obtain ⟨a, vs, rfl, q, rs⟩ := r
  unfold minG at p
  split at p
  · rename_i bs e
    split at p
    · exact p.elim
    · rename_i hne
      have hne : bs ≠ [] := by simpa using hne
      refine ⟨a, bs, rfl, .of (by rw [q, intsOf_ok rs e]), List.length_pos_iff.mpr hne, fun m h1 h2 => ?_⟩
      have : m = minI bs := Int.le_antisymm (h2 _ (minI_mem bs hne)) (minI_le bs m h1)
      subst this
      exact p μ H _ x hs rfl
  · exact p.elim
theorem ae_max {p : Pos} (cx : Ctx X W lv) (hm : X.mg "max" = none) (ha : AM X W e fl) (hg : Gl X "max" := by rfl) (he : starEach [e] X.env = (false, eval e X.env) :: starEach [] X.env := by rfl) : AE X W (.Call (.Name "max" p) [e] [] pos) (eQ maxG fl) :=
  p_callB (cr_max cx.calm) maxQ hm (by decide +kernel) ha hg (he := he)
theorem ae_min {p : Pos} (cx : Ctx X W lv) (hm : X.mg "min" = none) (ha : AM X W e fl) (hg : Gl X "min" := by rfl) (he : starEach [e] X.env = (false, eval e X.env) :: starEach [] X.env := by rfl) : AE X W (.Call (.Name "min" p) [e] [] pos) (eQ minG fl) :=
  p_callB (cr_min cx.calm) minQ hm (by decide +kernel) ha hg (he := he)
/- abs, max, min of two, int(..) -/
def absG (ds : List D) (st : Store) : R D := match ds with
  | [.int i] => .ok (.int (if i < 0 then -i else i)) st
  | _ => .bad
theorem absA {G : GX} : CalA G absG (fun xs H Q => ∃ i, xs = [.int i] ∧ Q (.int (if i < 0 then -i else i)) H) := by
  intro W σ μ H st ds vs Q hs rs p
  unfold absG at p
  split at p
  · obtain ⟨v, rest, rfl, rd, e0⟩ := rs; cases e0; cases rd; exact ⟨_, rfl, p μ H _ .refl hs rfl⟩
  · exact p.elim
theorem ae_abs {p : Pos} (hm : X.mg "abs" = none) (ha : AA X W [e] fr) (hg : Gl X "abs" := by rfl) (he : starEach [e] X.env = (false, eval e X.env) :: starEach [] X.env := by rfl) : AE X W (.Call (.Name "abs" p) [e] [] pos) (eB absG fr) :=
  ae_callB call_abs absA hm (by decide +kernel) ha hg (he := he) (hpl := rfl)
def max2G (ds : List D) (st : Store) : R D := match ds with
  | [.int i, .int j] => .ok (.int (if j > i then j else i)) st
  | _ => .bad
def min2G (ds : List D) (st : Store) : R D := match ds with
  | [.int i, .int j] => .ok (.int (if j < i then j else i)) st
  | _ => .bad
theorem max2A {G : GX} : CalA G max2G (fun xs H Q => ∃ i j, xs = [.int i, .int j] ∧ Q (.int (if j > i then j else i)) H) := by
  intro W σ μ H st ds vs Q hs rs p
  unfold max2G at p
  split at p
  · obtain ⟨v, rest, rfl, rd, v', rest', rfl, rd', e0⟩ := rs; cases e0; cases rd; cases rd'; exact ⟨_, _, rfl, p μ H _ .refl hs rfl⟩
  · exact p.elim
theorem min2A {G : GX} : CalA G min2G (fun xs H Q => ∃ i j, xs = [.int i, .int j] ∧ Q (.int (if j < i then j else i)) H) := by
  intro W σ μ H st ds vs Q hs rs p
  unfold min2G at p
  split at p
  · obtain ⟨v, rest, rfl, rd, v', rest', rfl, rd', e0⟩ := rs; cases e0; cases rd; cases rd'; exact ⟨_, _, rfl, p μ H _ .refl hs rfl⟩
  · exact p.elim
theorem ae_max2 {p : Pos} (cx : Ctx X W lv) (hm : X.mg "max" = none) (ha : AA X W [a, b] fr) (hg : Gl X "max" := by rfl) (he : starEach [a, b] X.env = (false, eval a X.env) :: starEach [b] X.env := by rfl) (hpl : (backTo pos (starEach [b] X.env)).any (·.1) = false := by rfl) : AE X W (.Call (.Name "max" p) [a, b] [] pos) (eB max2G fr) :=
  ae_callB (call_max2 cx.calm) max2A hm (by decide +kernel) ha hg (he := he) (hpl := hpl)
theorem ae_min2 {p : Pos} (cx : Ctx X W lv) (hm : X.mg "min" = none) (ha : AA X W [a, b] fr) (hg : Gl X "min" := by rfl) (he : starEach [a, b] X.env = (false, eval a X.env) :: starEach [b] X.env := by rfl) (hpl : (backTo pos (starEach [b] X.env)).any (·.1) = false := by rfl) : AE X W (.Call (.Name "min" p) [a, b] [] pos) (eB min2G fr) :=
  ae_callB (call_min2 cx.calm) min2A hm (by decide +kernel) ha hg (he := he) (hpl := hpl)
def intG (ds : List D) (st : Store) : R D := match ds with
  | [.int i] => .ok (.int i) st
  | [.bl k] => .ok (.int (if k then 1 else 0)) st
  | _ => .bad
theorem intA {G : GX} : CalA G intG (fun xs H Q => (∃ i, xs = [.int i] ∧ Q (.int i) H) ∨ ∃ k, xs = [.bl k] ∧ Q (.int (if k then 1 else 0)) H) := by
  intro W σ μ H st ds vs Q hs rs p
  unfold intG at p
  split at p
  · obtain ⟨v, rest, rfl, rd, e0⟩ := rs; cases e0; cases rd; exact .inl ⟨_, rfl, p μ H _ .refl hs rfl⟩
  · obtain ⟨v, rest, rfl, rd, e0⟩ := rs; cases e0; cases rd; exact .inr ⟨_, rfl, p μ H _ .refl hs rfl⟩
  · exact p.elim
theorem ae_int1 {p : Pos} (hm : X.mg "int" = none) (ha : AA X W [e] fr) (hg : Gl X "int" := by rfl) (he : starEach [e] X.env = (false, eval e X.env) :: starEach [] X.env := by rfl) : AE X W (.Call (.Name "int" p) [e] [] pos) (eB intG fr) :=
  ae_callTy call_int1 intA hm (by decide +kernel) ha hg (he := he) (hpl := rfl)

/-! ## methods -/
def isLst (d : D) (st : Store) : Bool := match d with
  | .ref n => (match st[n]? with | some (.lst _) => true | _ => false)
  | _ => false
def eM (ok : D → Store → Bool) (g : D → List D → Store → R D) (fo : EF) (fr : LF) : EF := fun env st => (fo env st).bind fun x st1 => if ok x st1 then (fr env st1).bind fun ds st2 => g x ds st2 else .bad
def MetA (G : GX) (g : D → List D → Store → R D) (r : V → List V → Hp → VK → Prop) : Prop := ∀ W σ μ H st x ds v vs Q, HS G μ H st → RelD G μ H x v → RelDs G μ H ds vs → Post G W (relD G) σ μ H (g x ds st) Q → r v vs H Q
def TyA (G : GX) (ok : D → Store → Bool) (T : String) : Prop := ∀ μ H st x v, HS G μ H st → RelD G μ H x v → ok x st = true → tyV G.K T v H
theorem tyLst {G : GX} : TyA G isLst "list" := by
  intro μ H st x v hs r e
  cases x with
  | ref n =>
    obtain ⟨a, e1, rfl⟩ := r
    simp only [isLst] at e
    split at e
    · rename_i ds e2
      obtain ⟨_, h1, vs, rfl, _⟩ := hs.obj n a _ e1 e2
      exact .inl ⟨rfl, _, .of h1⟩
    · cases e
  | _ => simp [isLst] at e
theorem ae_bm {T id : String} {name : Str} {r : V → List V → Hp → VK → Prop} {ok : D → Store → Bool} {g : D → List D → Store → R D} {apos cpos : Pos} (pa : PlainAttrs T) (slot : Slot T name id) (hty : typeOf (.builtin id) = pure (.type "method_descriptor")) (hm : MtR X id r)
    (ht : TyA (gx X) ok T) (hg : MetA (gx X) g r) (ho : AE X W o fo) (ha : AA X W (e :: es) fr)
    (hbase : attributeBase o name X.env (eval o X.env) = eval o X.env := by rfl)
    (hfew : ((backTo cpos (starEach (e :: es) X.env)).all (fun x => !x.1) && (backToKw cpos (keywordEach [] X.env)).all (fun x => x.1.isSome)
      && decide ((e :: es).length + ([] : List Keyword).length + (if ([] : List Keyword).isEmpty then 0 else 1) < 30)) = true := by rfl)
    (hline : (apos.endLine == cpos.line) = true := by rfl) (hs : starEach (e :: es) X.env = (false, eval e X.env) :: starEach es X.env := by rfl) (hplain : (backTo cpos (starEach es X.env)).any (·.1) = false := by rfl) :
    AE X W (.Call (.Attribute o name apos) (e :: es) [] cpos) (eM ok g fo fr) := (pe_bm pa slot hty hm ho ha hbase hfew hline hs hplain).weak fun σ H Q ⟨μ, env, st, hs, er, q⟩ =>
      ⟨μ, env, st, hs, er, Post.bind q fun x st1 μ1 H1 v _ x1 hs1 r1 p1 => by
        split at p1
        · rename_i hok
          exact ⟨ht μ1 H1 st1 x v hs1 r1 hok, μ1, env, st1, hs1, er.ext hs x1, Post.bind p1 fun ds st2 μ2 H2 vs _ x2 hs2 r2 p2 => hg W σ μ2 H2 st2 x ds v vs Q hs2 (RelD.ext hs1 x2 x v r1) r2 p2⟩
        · exact p1.elim⟩
theorem ae_bm0 {T id : String} {name : Str} {r : V → List V → Hp → VK → Prop} {ok : D → Store → Bool} {g : D → List D → Store → R D} {apos cpos : Pos} (pa : PlainAttrs T) (slot : Slot T name id) (hty : typeOf (.builtin id) = pure (.type "method_descriptor")) (hm : MtR X id r)
    (ht : TyA (gx X) ok T) (hg : MetA (gx X) g r) (ho : AE X W o fo)
    (hbase : attributeBase o name X.env (eval o X.env) = eval o X.env := by rfl) (hline : (apos.endLine == cpos.line) = true := by rfl) :
    AE X W (.Call (.Attribute o name apos) [] [] cpos) (eM ok g fo lNil) := (pe_bm0 pa slot hty hm ho hbase hline).weak fun σ H Q ⟨μ, env, st, hs, er, q⟩ =>
      ⟨μ, env, st, hs, er, Post.bind q fun x st1 μ1 H1 v _ x1 hs1 r1 p1 => by
        split at p1
        · rename_i hok
          exact ⟨ht μ1 H1 st1 x v hs1 r1 hok, hg W σ μ1 H1 st1 x [] v [] Q hs1 r1 rfl p1⟩
        · exact p1.elim⟩
def appendG (x : D) (ds : List D) (st : Store) : R D := match x, ds with
  | .ref n, [d] => (match st[n]? with
    | some (.lst xs) => if xs.length < sizeLine then .ok .non (st.set n (.lst (xs ++ [d]))) else .bad
    | _ => .bad)
  | _, _ => .bad
theorem appendA {G : GX} : MetA G appendG rAppend := by
  intro W σ μ H st x ds v vs Q hs rx rs p
  unfold appendG at p
  split at p
  · obtain ⟨y, rest, rfl, rd, e0⟩ := rs; cases e0
    obtain ⟨a, e1, rfl⟩ := rx
    split at p
    · rename_i xs e2
      obtain ⟨_, h1, us, rfl, ru⟩ := hs.obj _ a _ e1 e2
      split at p
      · rename_i hz
        exact ⟨a, us, y, rfl, rfl, h1, by rw [ru.length]; exact hz, p μ _ _ (.put e1 h1) (hs.put e1 ⟨_, rfl, ru.append (.one rd)⟩) rfl⟩
      · exact p.elim
    · exact p.elim
  · exact p.elim
theorem ae_append {apos cpos : Pos} (ho : AE X W o fo) (ha : AA X W [e] fr) (hbase : attributeBase o "append" X.env (eval o X.env) = eval o X.env := by rfl)
    (hfew : ((backTo cpos (starEach [e] X.env)).all (fun x => !x.1) && (backToKw cpos (keywordEach [] X.env)).all (fun x => x.1.isSome)
      && decide (([e] : List Expr).length + ([] : List Keyword).length + (if ([] : List Keyword).isEmpty then 0 else 1) < 30)) = true := by rfl)
    (hline : (apos.endLine == cpos.line) = true := by rfl) (hs : starEach [e] X.env = (false, eval e X.env) :: starEach [] X.env := by rfl) : AE X W (.Call (.Attribute o "append" apos) [e] [] cpos) (eM isLst appendG fo fr) :=
  ae_bm PySem.F.plainAttrs_list PySem.F.slot_list_append PySem.F.type_list_append mt_append tyLst appendA ho ha hbase hfew hline hs rfl
def popG (x : D) (ds : List D) (st : Store) : R D := match x, ds with
  | .ref n, [] => (match st[n]? with
    | some (.lst xs) => (match xs[xs.length - 1]? with
      | some d => .ok d (st.set n (.lst xs.dropLast))
      | none => .bad)
    | _ => .bad)
  | _, _ => .bad
theorem RelDs.dropLast {G : GX} {μ : List Addr} {H : Hp} {ds : List D} {vs : List V} (r : RelDs G μ H ds vs) : RelDs G μ H ds.dropLast vs.dropLast := by
  rw [List.dropLast_eq_take, List.dropLast_eq_take, r.length]
  exact r.take _
theorem popA {G : GX} : MetA G popG rPop := by
  intro W σ μ H st x ds v vs Q hs rx rs p
  unfold popG at p
  split at p
  · cases rs
    obtain ⟨a, e1, rfl⟩ := rx
    split at p
    · rename_i xs e2
      obtain ⟨_, h1, us, rfl, ru⟩ := hs.obj _ a _ e1 e2
      split at p
      · rename_i d e3
        obtain ⟨y, e4, rd⟩ := ru.get e3
        refine ⟨a, us, y, rfl, rfl, h1, by rw [ru.length]; exact e4, p μ _ _ (.put e1 h1) (hs.put e1 ⟨_, rfl, ru.dropLast⟩) (RelD.wr (hs.noTupAt e1) _ _ rd)⟩
      · exact p.elim
    · exact p.elim
  · exact p.elim
def popAtG (x : D) (ds : List D) (st : Store) : R D := match x, ds with
  | .ref n, [.int i] => (match st[n]? with
    | some (.lst xs) => if 0 ≤ i ∧ i < 2 ^ 63 then (match xs[i.toNat]? with
      | some d => .ok d (st.set n (.lst (xs.eraseIdx i.toNat)))
      | none => .bad) else .bad
    | _ => .bad)
  | _, _ => .bad
theorem RelDs.erase {G : GX} {μ : List Addr} {H : Hp} : ∀ {ds : List D} {vs : List V} (k : Nat), RelDs G μ H ds vs → RelDs G μ H (ds.eraseIdx k) (vs.eraseIdx k)
  | [], _, _, r => by cases r; rfl
  | d :: ds, _, 0, r => by obtain ⟨v, rest, rfl, rd, rs⟩ := r; exact rs
  | d :: ds, _, k + 1, r => by obtain ⟨v, rest, rfl, rd, rs⟩ := r; exact ⟨v, _, rfl, rd, RelDs.erase k rs⟩
theorem popAtA {G : GX} : MetA G popAtG rPopAt := by
  intro W σ μ H st x ds v vs Q hs rx rs p
  unfold popAtG at p
  split at p
  · rename_i i
    obtain ⟨y0, rest, rfl, rd0, e0⟩ := rs; cases e0; cases rd0
    obtain ⟨a, e1, rfl⟩ := rx
    split at p
    · rename_i xs e2
      obtain ⟨_, h1, us, rfl, ru⟩ := hs.obj _ a _ e1 e2
      split at p
      · rename_i hz
        split at p
        · rename_i d e3
          obtain ⟨y, e4, rd⟩ := ru.get e3
          have hlt := (List.getElem?_eq_some_iff.mp e4).1
          refine ⟨a, us, _, i.toNat, y, rfl, rfl, h1, by omega, hz.2, ?_, e4, p μ _ _ (.put e1 h1) (hs.put e1 ⟨_, rfl, ru.erase _⟩) (RelD.wr (hs.noTupAt e1) _ _ rd)⟩
          unfold seqIndex?
          have h0 : ¬ i < 0 := by omega
          simp [h0]; omega
        · exact p.elim
      · exact p.elim
    · exact p.elim
  · exact p.elim
/-! ## o[i] = e -/
def sSub (fo fi fe : EF) : SF := fun env st => sOf (fe env st) env fun y st1 => sOf (fo env st1) env fun x st2 => sOf (fi env st2) env fun i st3 => match x, i with
  | .ref n, .int k => (match st3[n]? with
    | some (.lst xs) => (match ixN xs.length k with
      | some j => .next env (st3.set n (.lst (xs.set j y)))
      | none => .bad)
    | _ => .bad)
  | _, _ => .bad
theorem as_sub {i : Expr} {fi : EF} {apos : Pos} (ho : AE X W o fo) (hi : AE X W i fi) (he : AE X W e fe) (ha : ∀ v, assign (.Subscript o i apos) X.env v = (do
      let ov ← holding [v] (eval o X.env)
      let iv ← holding [v, ov] (eval i X.env)
      standAt apos
      holding [v, ov, iv] (setItem ov iv v)
      release [v, ov, iv] []) := by intro _; rfl) (hs : swapsWithSole [.Subscript o i apos] e pos.line X.env = pure false := by rfl) (hw : swappedStores [.Subscript o i apos] e X.env = pure none := by rfl)
    (h1 : (assignEach [.Subscript o i apos] X.env).map (·.2) = [assign (.Subscript o i apos) X.env] := by rfl) : AS X W (.Assign [.Subscript o i apos] e pos) (sSub fo fi fe) :=
  (ps_asg he (pg_sub ho hi set_list ha) hs hw h1).weak fun Dn σ H ⟨μ, env, st, hs, er, p⟩ => ⟨μ, env, st, hs, er, PostS.bind p hs er fun y st1 μ1 H1 v _ x1 hs1 r1 p1 =>
    ⟨μ1, env, st1, hs1, er.ext hs x1, PostS.bind p1 hs1 (er.ext hs x1) fun x st2 μ2 H2 ov _ x2 hs2 r2 p2 => ⟨μ2, env, st2, hs2, (er.ext hs x1).ext hs1 x2, PostS.bind p2 hs2 ((er.ext hs x1).ext hs1 x2) fun i st3 μ3 H3 iv _ x3 hs3 r3 p3 => by
      have r2 := RelD.ext hs2 x3 _ _ r2
      have r1 := RelD.ext hs1 (x2.trans x3) _ _ r1
      have er3 := ((er.ext hs x1).ext hs1 x2).ext hs2 x3
      split at p3
      · cases r3
        obtain ⟨a, e1, rfl⟩ := r2
        split at p3
        · rename_i xs e2
          obtain ⟨_, h1, us, rfl, ru⟩ := hs3.obj _ a _ e1 e2
          split at p3
          · rename_i j ej
            exact ⟨a, us, _, j, rfl, rfl, h1, by rw [ru.length]; exact ej, p3 μ3 _ σ (.put e1 h1) (hs3.put e1 ⟨_, rfl, ru.set j r1⟩) (er3.wr (hs3.noTupAt e1))⟩
          · exact p3.elim
        · exact p3.elim
      · exact p3.elim⟩⟩⟩
end
end TK

set_option Elab.async false
set_option linter.all false
set_option maxRecDepth 100000
set_option maxHeartbeats 4000000
namespace TK
open PySem PySem.Spec
open PyProof.Rows hiding St
open L2

/-! ## isinstance, built-in kinds -/
def kindD (d : D) (st : Store) : Option String := match d with
  | .non => some "NoneType"
  | .bl _ => some "bool"
  | .int _ => some "int"
  | .str _ => some "str"
  | .tup _ => some "tuple"
  | .ref n => (match st[n]? with
    | some (.lst _) => some "list"
    | some (.rol _) => some "list"
    | some (.dct _) => some "dict"
    | some (.dcT _) => some "dict"
    | _ => none)
  | .cls _ => none
theorem kind_ty {G : GX} {μ : List Addr} {H : Hp} {st : Store} (hs : HS G μ H st) {d : D} {v : V} {T : String} (r : RelD G μ H d v) (e : kindD d st = some T) : TyX G.K H v (.type T) := by
  cases d with
  | non => cases r; simp [kindD] at e; subst e; exact .base .non
  | bl _ => cases r; simp [kindD] at e; subst e; exact .base (.bl _)
  | int _ => cases r; simp [kindD] at e; subst e; exact .base (.int _)
  | str _ => cases r; simp [kindD] at e; subst e; exact .base (.str _)
  | cls _ => simp [kindD] at e
  | tup ds =>
    obtain ⟨a, vs, rfl, q, _⟩ := r
    simp [kindD] at e; subst e
    exact .base (.tup q)
  | ref n =>
    obtain ⟨a, e1, rfl⟩ := r
    obtain ⟨o, ho, e2, e3, ro⟩ := hs.at e1
    simp only [kindD, e2] at e
    cases o with
    | lst ds => simp at e; subst e; obtain ⟨vs, rfl, _⟩ := ro; exact .base (.lst e3)
    | rol ds => simp at e; subst e; obtain ⟨ob, vs, rfl, _⟩ := ro; exact .base (.frz e3)
    | ins c fs => simp at e
    | dct kvs => simp at e; subst e; obtain ⟨ks, rfl, _⟩ := ro; exact .base (.dK e3)
    | dcT kvs => simp at e; subst e; obtain ⟨ks, rfl, _⟩ := ro; exact .base (.dT e3)
    | rdK kvs => simp at e
    | rdT kvs => simp at e
def subT : List String → String → Bool
  | [], _ => false
  | T :: Ts, k => (k == T || (k == "bool" && T == "int")) || subT Ts k
def kindsAll : List String := ["NoneType", "bool", "int", "str", "tuple", "list", "dict"]
/-- the types that may be asked for -/
def tysAll : List String := ["bool", "int", "str", "tuple", "list", "dict"]
theorem kit_all : ∀ k ∈ kindsAll, ∀ T ∈ tysAll, kitB k T = some (k == T || (k == "bool" && T == "int")) := by decide +kernel
theorem kitAny_all {K : PySem.W.Frag} {k : String} (hk : k ∈ kindsAll) : ∀ Ts : List String, (∀ T ∈ Ts, T ∈ tysAll) → PySem.W.kitAny K (.type k) (Ts.map Value.type) = some (subT Ts k)
  | [], _ => rfl
  | T :: Ts, h => by
    have h1 := kit_ty (K := K) (kit_all k hk T (h T (by simp)))
    have h2 := kitAny_all (K := K) hk Ts fun T hT => h T (by simp [hT])
    refine kitAny_cons h1 (fun e => ?_) fun e => ?_
    · rw [h2]; simp [subT, e]
    · simp only [subT, e, Bool.true_or]
theorem kind_mem {d : D} {st : Store} {k : String} (e : kindD d st = some k) : k ∈ kindsAll := by
  cases d with
  | non => simp [kindD] at e; subst e; decide
  | bl _ => simp [kindD] at e; subst e; decide
  | int _ => simp [kindD] at e; subst e; decide
  | str _ => simp [kindD] at e; subst e; decide
  | tup _ => simp [kindD] at e; subst e; decide
  | cls _ => simp [kindD] at e
  | ref n =>
    simp only [kindD] at e
    cases q : st[n]? with
    | none => rw [q] at e; cases e
    | some o =>
      rw [q] at e
      cases o with
      | lst _ => cases e; decide
      | rol _ => cases e; decide
      | dct _ => cases e; decide
      | dcT _ => cases e; decide
      | rdK _ => cases e
      | rdT _ => cases e
      | ins _ _ => cases e
/-- isinstance(x, T) or isinstance(x, (T, ..)); an instance of a class of the text is of none of these -/
def eIsi (Ts : List String) (fe : EF) : EF := fun env st => (fe env st).bind fun d st1 => match kindD d st1 with
  | some k => .ok (.bl (subT Ts k)) st1
  | none => .bad
section
variable {X : Cx} {W : WX} {a b c e o : Expr} {es : List Expr} {fa fb fe fo : EF} {fl fl' fr : LF} {pos pos' : Pos} {lv : Nat}
theorem ae_isi {p p2 : Pos} {x : Str} (T : String) (hm : X.mg "isinstance" = none) (ha : AE X W e fe) (hg : Gl X "isinstance" := by rfl) (hx : Gl X x := by rfl) (hmx : X.mg x = none) (hv : bootBuiltins x = some (.type T) := by decide +kernel) (hT : T ∈ tysAll := by decide)
    (hn : x ≠ "__name__" := by decide) (hd : (x == ("__debug__" : Str)) = false := by decide)
    (he : starEach [e, .Name x p2] X.env = (false, eval e X.env) :: starEach [.Name x p2] X.env := by rfl) (he2 : starEach [.Name x p2] X.env = (false, eval (.Name x p2) X.env) :: starEach [] X.env := by rfl) (hpl : (backTo pos (starEach [.Name x p2] X.env)).any (·.1) = false := by rfl) :
    AE X W (.Call (.Name "isinstance" p) [e, .Name x p2] [] pos) (eIsi [T] fe) :=
  (pe_callB call_isi hg hm (by decide +kernel) (pa_cons ha (pa_cons (pe_bltn (v := .ty T) hx hmx hv (by rfl) hn hd) pa_nil he2) he) (he := he) (hpl := hpl)).weak fun σ H Q ⟨μ, env, st, hs, er, q⟩ =>
    ⟨μ, env, st, hs, er, Post.bind q fun d st1 μ1 H1 v _ x1 hs1 r1 p1 => by
      split at p1
      · rename_i k ek
        have hk := kitAny_all (K := X.K) (kind_mem ek) [T] fun T' hT' => by simp at hT'; subst hT'; exact hT
        refine ⟨v, .ty T, _, _, _, rfl, .ty T, kind_ty hs1 r1 ek, ?_, p1 μ1 H1 _ .refl hs1 rfl⟩
        simp only [subT, Bool.or_false]
        exact kit_ty (kit_all k (kind_mem ek) T hT)
      · exact p1.elim⟩
theorem ae_isi2 {p p2 p3 p4 : Pos} {kk : Nat} {x y : Str} (T U : String) (hm : X.mg "isinstance" = none) (ha : AE X W e fe) (hg : Gl X "isinstance" := by rfl) (hx : Gl X x := by rfl) (hy : Gl X y := by rfl) (hmx : X.mg x = none) (hmy : X.mg y = none)
    (hv : bootBuiltins x = some (.type T) := by decide +kernel) (hw : bootBuiltins y = some (.type U) := by decide +kernel) (hT : T ∈ tysAll := by decide) (hU : U ∈ tysAll := by decide)
    (hn : x ≠ "__name__" := by decide) (hd : (x == ("__debug__" : Str)) = false := by decide) (hn' : y ≠ "__name__" := by decide) (hd' : (y == ("__debug__" : Str)) = false := by decide)
    (he : starEach [e, .Tuple [.Name x p2, .Name y p3] kk p4] X.env = (false, eval e X.env) :: starEach [.Tuple [.Name x p2, .Name y p3] kk p4] X.env := by rfl)
    (he2 : starEach [.Tuple [.Name x p2, .Name y p3] kk p4] X.env = (false, eval (.Tuple [.Name x p2, .Name y p3] kk p4) X.env) :: starEach [] X.env := by rfl)
    (h3 : starEach [.Name x p2, .Name y p3] X.env = (false, eval (.Name x p2) X.env) :: starEach [.Name y p3] X.env := by rfl) (h4 : starEach [.Name y p3] X.env = (false, eval (.Name y p3) X.env) :: starEach [] X.env := by rfl)
    (hpl : (backTo pos (starEach [.Tuple [.Name x p2, .Name y p3] kk p4] X.env)).any (·.1) = false := by rfl) :
    AE X W (.Call (.Name "isinstance" p) [e, .Tuple [.Name x p2, .Name y p3] kk p4] [] pos) (eIsi [T, U] fe) :=
  (pe_callB call_isiT hg hm (by decide +kernel) (pa_cons ha (pa_cons (pe_tup (pa_cons (pe_bltn (v := .ty T) hx hmx hv (by rfl) hn hd) (pa_cons (pe_bltn (v := .ty U) hy hmy hw (by rfl) hn' hd') pa_nil h4) h3)) pa_nil he2) he) (he := he) (hpl := hpl)).weak fun σ H Q ⟨μ, env, st, hs, er, q⟩ =>
    ⟨μ, env, st, hs, er, Post.bind q fun d st1 μ1 H1 v _ x1 hs1 r1 p1 => by
      refine ⟨by show 2 ≤ sizeLine; rw [sizeLine_eq]; decide, fun tp htp => ?_⟩
      split at p1
      · rename_i k ek
        have r1 := RelD.ext hs1 (.new (o := .tup [.ty T, .ty U]) htp) _ _ r1
        have hs2 := hs1.new (o := .tup [.ty T, .ty U]) htp
        have hk := kitAny_all (K := X.K) (kind_mem ek) [T, U] fun T' hT' => by
          simp at hT'
          rcases hT' with rfl | rfl
          · exact hT
          · exact hU
        exact ⟨v, tp, [.ty T, .ty U], _, _, _, rfl, upd_same, .cons (.ty T) (.cons (.ty U) .nil), kind_ty hs2 r1 ek, hk, p1 μ1 _ _ (.new htp) hs2 rfl⟩
      · exact p1.elim⟩

/-! ## a walk over a tuple or a list of the store -/
def iSeqF (fe : EF) : IF := fun env st => (fe env st).bind fun d st1 => match d with
  | .tup ds => .ok (ds, []) st1
  | .ref n => (match seqOf (.ref n) st1 with
    | some ds => .ok (ds, [(n, ds)]) st1
    | none => .bad)
  | _ => .bad
theorem pi_seq {tg l : Expr} {tl : TE} (hl : PE X l tl) : PI X tg l (fun σ H R => tl σ H fun x H1 => (∃ a, x = .ref a ∧ (∃ xs, SqL X.K H1 a xs) ∧ R (Itl X.K a) H1) ∨ (∃ a, x = .ref a ∧ (∃ xs, SqT X.K H1 a xs) ∧ R (Itt X.K a) H1)) := by
  refine ⟨fun pins s σ H R I h => ?_⟩
  refine thn (hl.run pins s σ H _ I h) fun v s1 ⟨x, H1, I1, r1, q1⟩ => ?_
  rcases q1 with ⟨a, e, ⟨xs, hq⟩, q⟩ | ⟨a, e, ⟨xs, hq⟩, q⟩
  · subst e
    cases r1
    obtain ⟨its, rv, p, hz⟩ := I1.list hq
    refine wpAny_pyIter_list p.isList ?_
    refine ⟨s1.heap.objs.size, [s1.heap.objs.size], _, _, H1, rfl, I1.kept (t' := s1.toks) fun b o e => Heap.get?_push_of_some _ e, turn_list a _, ⟨_, Heap.get?_push_size _ rfl, rfl, rfl⟩, fun b hb => ?_, q⟩
    have e : b = s1.heap.objs.size := by simpa using hb
    subst e
    exact I1.fpOk (Nat.le_refl _) (I1.hok.fresh (Nat.le_refl _))
  · subst e
    cases r1
    obtain ⟨its, rv, p, hz⟩ := I1.tuple hq
    refine wpAny_pyIter_tuple (show s1.heap.IsTuple a its.toArray from p) ?_
    refine ⟨s1.heap.objs.size, [s1.heap.objs.size], _, _, H1, rfl, I1.kept (t' := s1.toks) fun b o e => Heap.get?_push_of_some _ e, turn_tuple a _, ⟨_, Heap.get?_push_size _ rfl, rfl, rfl⟩, fun b hb => ?_, q⟩
    have e : b = s1.heap.objs.size := by simpa using hb
    subst e
    exact I1.fpOk (Nat.le_refl _) (I1.hok.fresh (Nat.le_refl _))
theorem ai_seq {tg : Expr} (he : AE X W e fe) : AI X W tg e (iSeqF fe) := (pi_seq he).weak fun σ H Q ⟨μ, env, st, hs, er, p⟩ =>
  ⟨μ, env, st, hs, er, Post.bind p fun d st1 μ1 H1 v _ x1 hs1 r1 p1 => by
    cases d with
    | tup ds => obtain ⟨a, vs, e1, q, rs⟩ := r1; exact .inr ⟨a, e1, ⟨vs, .of q⟩, p1 μ1 H1 _ .refl hs1 (.tup hs1 (.of q) rs)⟩
    | ref n =>
      obtain ⟨a, e1, ev⟩ := r1
      simp only at p1
      split at p1
      · rename_i ds q
        obtain ⟨vs, q1, rs⟩ := hs1.seq e1 q
        exact .inl ⟨a, ev, ⟨vs, q1⟩, p1 μ1 H1 _ .refl hs1 (.ref e1)⟩
      · exact p1.elim
    | _ => exact p1.elim⟩

/-! ## a new list that a call gives, taken out of the store -/
open Classical in
noncomputable def lDrop (fe : EF) : LF := fun env st => match fe env st with
  | .ok (.ref k) st' => if Trim st st' ∧ st.length ≤ k then (match st'[k]? with
      | some (.lst ds) => if closeds st.length ds then .ok ds (st'.take st.length) else .bad
      | _ => .bad) else .bad
  | .exc x st' => .exc x st'
  | _ => .bad
theorem al_drop (h : AE X W e fe) : AL X W e (lDrop fe) := h.weak fun σ H Q ⟨μ, env, st, hs, er, p⟩ => by
  refine ⟨μ, env, st, hs, er, ?_⟩
  unfold lDrop at p
  cases q : fe env st with
  | bad => rw [q] at p; exact p
  | exc x s => rw [q] at p; exact p
  | ok d st' =>
    rw [q] at p
    intro μ1 H1 v x1 hs1 r1
    cases d with
    | ref k =>
      simp only at p
      split at p
      · rename_i h
        obtain ⟨t, hk⟩ := h
        split at p
        · rename_i ds e1
          split at p
          · rename_i c
            obtain ⟨a, e2, rfl⟩ := r1
            obtain ⟨_, h1, vs, rfl, rs⟩ := hs1.obj _ a _ e2 e1
            have hc := hs.cut x1 hs1 t
            obtain ⟨ν, rfl, f, kk⟩ := x1
            rw [List.getElem?_append_right (by rw [hs.len]; exact hk)] at e2
            obtain ⟨f1, f2⟩ := f a (List.mem_of_getElem? e2)
            refine p μ H1 _ ⟨[], by simp, by simp, kk⟩ hc ⟨a, vs, rfl, f1, f2, h1, RelDs.cut ds vs (by rw [hs.len]; exact c) rs⟩
          · exact p.elim
        · exact p.elim
      · exact p.elim
    | _ => exact p.elim

/-! ## name = [..] on one line -/
theorem as_setLc {elt tg iter : Expr} {ifs : List Expr} {scope : Scope} {spos py : Pos} {y : Str} {fi : IF} {t : Tgt} {fc : BF} {f1 : EF} (c : Ctx X W lv) (i : Nat) (hi : AI X W tg iter fi) (own : List (Str × Nat)) (ok : BlkOk X.N X.env.scope scope own)
    (hg : ∀ s H C cl fp, AG (bX X scope s H C cl fp) tg t) (hc : ∀ s H C cl fp, ATs (bX X scope s H C cl fp) W0 ifs fc) (he : ∀ s H C cl fp, AE (bX X scope s H C cl fp) W0 elt f1)
    (hsw : swapsWith (.ListComp elt [⟨tg, iter, ifs, 0⟩] scope pos) (some (.Name y py)) spos.line X.env = pure true) (hy : X.N[i]? = some y := by rfl) (hyl : X.env.scope.names.lookup y = some .local := by rfl)
    (hv : ∀ i ∈ slotsT t, i ∈ own.map (·.2) := by decide) (hs : ∀ x, foldedSetIterable iter X.env x = pure x := by intro _; rfl) :
    AS X W (.Assign [.Name y py] (.ListComp elt [⟨tg, iter, ifs, 0⟩] scope pos) spos) (sSet i (eLst (compF (own.map (·.2)) fi t fc f1))) :=
  (ps_setLc (g := gT X.K t) (tt := tG (gx X) W0 relB fc) (te := tG (gx X) W0 (relD (gx X)) f1) c.calm c.nd hy hyl hsw hi ok hg hc he hs).weak fun Dn σ H ⟨μ, env, st, hst, er, p⟩ => by
    unfold tAsg gName
    refine comp_t hv ⟨μ, env, st, hst, er, ?_⟩
    unfold sSet eLst at p
    cases q : compF (own.map (·.2)) fi t fc f1 env st with
    | bad => rw [q] at p; exact p
    | exc x s => rw [q] at p; exact fun μ' H' C od x2 hs2 rx => p μ' H' σ C od x2 hs2 (er.ext hst x2) rx
    | ok ds st1 =>
      rw [q] at p
      intro μ1 H1 v x1 hs1 r1
      obtain ⟨a, vs, rfl, h0, hn, hv, rs⟩ := r1
      have rr : RelD (gx X) (μ1 ++ [a]) H1 (.ref st1.length) (.ref a) := ⟨a, by rw [← hs1.len, List.getElem?_append_right (Nat.le_refl _)]; simp, rfl⟩
      exact p (μ1 ++ [a]) H1 _ (x1.adopt h0 hn) (hs1.adopt hv hn ⟨vs, rfl, rs⟩) ((er.ext hst (x1.adopt h0 hn)).set rr i)

/-! ## sorted, of ints -/
def insI (x : Int) : List Int → List Int
  | [] => [x]
  | y :: ys => if x ≤ y then x :: y :: ys else y :: insI x ys
def sortI : List Int → List Int
  | [] => []
  | x :: xs => insI x (sortI xs)
theorem insI_perm (x : Int) : ∀ ys : List Int, (insI x ys).Perm (x :: ys)
  | [] => .refl _
  | y :: ys => by
    unfold insI
    split
    · exact .refl _
    · exact ((insI_perm x ys).cons y).trans (.swap x y ys)
theorem sortI_perm : ∀ xs : List Int, (sortI xs).Perm xs
  | [] => .refl _
  | x :: xs => (insI_perm x _).trans ((sortI_perm xs).cons x)
theorem insI_sorted (x : Int) : ∀ {ys : List Int}, ys.Pairwise (· ≤ ·) → (insI x ys).Pairwise (· ≤ ·)
  | [], _ => by simp [insI]
  | y :: ys, h => by
    unfold insI
    have h2 := List.pairwise_cons.mp h
    split
    · rename_i hxy
      refine List.pairwise_cons.mpr ⟨fun z hz => ?_, h⟩
      rcases List.mem_cons.mp hz with rfl | hz
      · exact hxy
      · exact Int.le_trans hxy (h2.1 z hz)
    · rename_i hxy
      refine List.pairwise_cons.mpr ⟨fun z hz => ?_, insI_sorted x h2.2⟩
      rcases List.mem_cons.mp ((insI_perm x ys).mem_iff.mp hz) with rfl | hz
      · omega
      · exact h2.1 z hz
theorem sortI_sorted : ∀ xs : List Int, (sortI xs).Pairwise (· ≤ ·)
  | [] => .nil
  | x :: xs => insI_sorted x (sortI_sorted xs)
theorem sorted_eq {xs ys : List Int} (p : xs.Perm ys) (h1 : xs.Pairwise (· ≤ ·)) (h2 : ys.Pairwise (· ≤ ·)) : xs = ys := p.eq_of_pairwise (fun a b _ _ h h' => Int.le_antisymm h h') h1 h2
def sortG (ds : List D) (st : Store) : R (List D) := match intsOf ds with
  | some ns => .ok ((sortI ns).map D.int) st
  | none => .bad
theorem sortQ {G : GX} : CalQ G (relM G) (relL G) sortG (rSortedI G.K) := by
  intro W σ μ0 H0 μ H st ds v Q x hs r p
  obtain ⟨a, vs, rfl, q, rs⟩ := r
  unfold sortG at p
  split at p
  · rename_i ns e
    refine ⟨a, ns, rfl, .of (by rw [q, intsOf_ok rs e]), fun ns' l pm so hl => ?_⟩
    have : ns' = sortI ns := sorted_eq (pm.trans (sortI_perm ns).symm) so (sortI_sorted ns)
    subst this
    exact p μ _ _ (x.trans (.new hl)) (hs.new hl) ⟨l, _, rfl, Ext.back x .refl (hs.fresh hl) hl, hs.fresh hl, upd_same, intsRel _⟩
  · exact p.elim
theorem al_sorted {p : Pos} (hm : X.mg "sorted" = none) (ha : AM X W e fl) (hg : Gl X "sorted" := by rfl) (he : starEach [e] X.env = (false, eval e X.env) :: starEach [] X.env := by rfl) : AL X W (.Call (.Name "sorted" p) [e] [] pos) (lQ sortG fl) :=
  p_callB cr_sortedI sortQ hm (by decide +kernel) ha hg (he := he)

/-! ## xs.extend([..]) -/
def extendF (fo : EF) (fl : LF) : EF := fun env st => (fo env st).bind fun x st1 => if isLst x st1 then (fl env st1).bind fun ys st2 => match x with
  | .ref n => (match st2[n]? with
    | some (.lst xs) => if xs.length + ys.length ≤ sizeLine then .ok .non (st2.set n (.lst (xs ++ ys))) else .bad
    | _ => .bad)
  | _ => .bad else .bad
theorem ae_extend {apos cpos : Pos} (ho : AE X W o fo) (ha : AM X W e fl) (hbase : attributeBase o "extend" X.env (eval o X.env) = eval o X.env := by rfl)
    (hfew : ((backTo cpos (starEach [e] X.env)).all (fun x => !x.1) && (backToKw cpos (keywordEach [] X.env)).all (fun x => x.1.isSome)
      && decide (([e] : List Expr).length + ([] : List Keyword).length + (if ([] : List Keyword).isEmpty then 0 else 1) < 30)) = true := by rfl)
    (hline : (apos.endLine == cpos.line) = true := by rfl) (hs : starEach [e] X.env = (false, eval e X.env) :: starEach [] X.env := by rfl) : AE X W (.Call (.Attribute o "extend" apos) [e] [] cpos) (extendF fo fl) :=
  (pe_bm PySem.F.plainAttrs_list PySem.F.slot_list_extend PySem.F.type_list_extend mt_extend ho (pa_cons ha pa_nil hs) hbase hfew hline hs rfl).weak fun σ H Q ⟨μ, env, st, hst, er, q⟩ =>
      ⟨μ, env, st, hst, er, Post.bind q fun x st1 μ1 H1 v _ x1 hs1 r1 p1 => by
        split at p1
        · rename_i hok
          refine ⟨tyLst μ1 H1 st1 x v hs1 r1 hok, μ1, env, st1, hs1, er.ext hst x1, Post.bind p1 fun ys st2 μ2 H2 u _ x2 hs2 r2 p2 => ?_⟩
          have r1 := RelD.ext hs1 x2 _ _ r1
          obtain ⟨b, us, rfl, hb, ru⟩ := r2
          split at p2
          · obtain ⟨a, e1, rfl⟩ := r1
            split at p2
            · rename_i xs e2
              obtain ⟨_, h1, vs, rfl, rv⟩ := hs2.obj _ a _ e1 e2
              split at p2
              · rename_i hz
                exact ⟨a, b, vs, us, rfl, rfl, h1, hb, by rw [rv.length, ru.length]; exact hz, p2 μ2 _ _ (.put e1 h1) (hs2.put e1 ⟨_, rfl, rv.append ru⟩) rfl⟩
              · exact p2.elim
            · exact p2.elim
          · exact p2.elim
        · exact p1.elim⟩
/-- [..] + xs -/
theorem al_cat (ha : AL X W a fl) (hb : AM X W b fl') : AL X W (.BinOp a .Add b pos) (lCat fl fl') := (pe_op op_cat ha hb).weak fun σ H Q ⟨μ, env, st, hs, er, p⟩ =>
  ⟨μ, env, st, hs, er, Post.bind0 p fun xs st1 μ1 H1 v _ x1 hs1 r1 p1 => ⟨μ1, env, st1, hs1, er.ext hs x1, by
    cases q : fl' env st1 with
    | bad => rw [q] at p1; exact p1
    | exc x s => rw [q] at p1; exact (Post.later (rel := relL (gx X)) (r := .exc x s) (Q := Q) p1 x1)
    | ok ys st2 =>
      rw [q, R.bind_ok] at p1
      intro μ2 H2 u x2 hs2 r2
      obtain ⟨a, vs, rfl, h0, hn, ha, rv⟩ := r1
      obtain ⟨b, us, rfl, hb, ru⟩ := r2
      split at p1
      · rename_i hz
        exact ⟨a, b, vs, us, rfl, rfl, x2.lst hn ha, hb, by rw [rv.length, ru.length]; exact hz, fun l hl => p1 μ2 _ _ ((x1.trans x2).trans (.new hl)) (hs2.new hl)
          ⟨l, vs ++ us, rfl, Ext.back (x1.trans x2) .refl (hs2.fresh hl) hl, hs2.fresh hl, upd_same, RelDs.ext hs2 (.new hl) _ _ ((RelDs.ext hs1 x2 _ _ rv).append ru)⟩⟩
      · exact p1.elim⟩⟩
/-- xs + [..] -/
def lCatE (fa : EF) (fl : LF) : LF := fun env st => (fa env st).bind fun x st1 => (fl env st1).bind fun ys st2 => match x with
  | .ref n => (match st2[n]? with
    | some (.lst xs) => if xs.length + ys.length ≤ sizeLine then .ok (xs ++ ys) st2 else .bad
    | _ => .bad)
  | _ => .bad
theorem al_catE (ha : AE X W a fa) (hb : AM X W b fl') : AL X W (.BinOp a .Add b pos) (lCatE fa fl') := (pe_op op_cat ha hb).weak fun σ H Q ⟨μ, env, st, hs, er, p⟩ =>
  ⟨μ, env, st, hs, er, Post.bind0 p fun x st1 μ1 H1 v _ x1 hs1 r1 p1 => ⟨μ1, env, st1, hs1, er.ext hs x1, by
    cases q : fl' env st1 with
    | bad => rw [q] at p1; exact p1
    | exc x s => rw [q] at p1; exact (Post.later (rel := relL (gx X)) (r := .exc x s) (Q := Q) p1 x1)
    | ok ys st2 =>
      rw [q, R.bind_ok] at p1
      intro μ2 H2 u x2 hs2 r2
      have r1 := RelD.ext hs1 x2 _ _ r1
      obtain ⟨b, us, rfl, hb, ru⟩ := r2
      split at p1
      · obtain ⟨a, e1, rfl⟩ := r1
        split at p1
        · rename_i xs e2
          obtain ⟨_, h1, vs, rfl, rv⟩ := hs2.obj _ a _ e1 e2
          split at p1
          · rename_i hz
            exact ⟨a, b, vs, us, rfl, rfl, h1, hb, by rw [rv.length, ru.length]; exact hz, fun l hl => p1 μ2 _ _ ((x1.trans x2).trans (.new hl)) (hs2.new hl)
              ⟨l, vs ++ us, rfl, Ext.back (x1.trans x2) .refl (hs2.fresh hl) hl, hs2.fresh hl, upd_same, RelDs.ext hs2 (.new hl) _ _ (rv.append ru)⟩⟩
          · exact p1.elim
        · exact p1.elim
      · exact p1.elim⟩⟩
end
end TK

set_option Elab.async false
set_option linter.all false
set_option maxRecDepth 100000
set_option maxHeartbeats 4000000
namespace TK
open PySem PySem.Spec
open PyProof.Rows hiding St
open L2

/-- a def of the text stands behind its name -/
def FunF (G : GX) (x : Str) (st : Stmt) : Prop := ∃ f fd, Fun G.K x x st f fd ∧ G.mg x = some (.ref f)
def ConI (G : GX) (x : Str) (i : Int) : Prop := ∃ t, G.mg x = some (.int i t)
def ConS (G : GX) (x : Str) (z : Str) : Prop := ∃ t, G.mg x = some (.str z t)
section
variable {X : Cx} {W : WX} {a b c e o : Expr} {es : List Expr} {fa fb fe fo : EF} {fl fl' fr : LF} {pos pos' : Pos} {lv : Nat}
theorem ae_conI {x : Str} {i : Int} (h : ConI (gx X) x i) (hg : Gl X x := by rfl) (hd : (x == ("__debug__" : Str)) = false := by decide) : AE X W (.Name x pos) (eC (.int i)) := let ⟨_, hm⟩ := h; ae_globI hg hm hd
theorem ae_conS {x : Str} {z : Str} (h : ConS (gx X) x z) (hg : Gl X x := by rfl) (hd : (x == ("__debug__" : Str)) = false := by decide) : AE X W (.Name x pos) (eC (.str z)) := let ⟨_, hm⟩ := h; ae_globS hg hm hd

/-! ## slices -/
abbrev OF := AEnv → Store → R (Option Int)
abbrev relO : RelT (Option Int) (Option Int) := ⟨fun _ _ _ a b => b = a, fun _ _ r => r⟩
abbrev AO' (X : Cx) (W : WX) (oe : Option Expr) (f : OF) : Prop := PO X oe (tG (gx X) W relO f)
def oNone : OF := fun _ st => .ok none st
def oSome (fe : EF) : OF := fun env st => (fe env st).bind fun d st1 => match d with
  | .int i => .ok (some i) st1
  | _ => .bad
theorem _root_.L2.PO.weak {X : Cx} {oe : Option Expr} {t t' : TO} (h : PO X oe t) (k : ∀ σ H Q, t' σ H Q → t σ H Q) : PO X oe t' := ⟨fun pins s σ H Q I q => h.run pins s σ H Q I (k _ _ _ q)⟩
theorem ao_none : AO' X W none oNone := po_none.weak fun σ H Q ⟨μ, env, st, hs, er, p⟩ => p μ H _ .refl hs rfl
theorem ao_some (h : AE X W e fe) : AO' X W (some e) (oSome fe) := (po_some h).weak fun σ H Q ⟨μ, env, st, hs, er, p⟩ => ⟨μ, env, st, hs, er, Post.bind p fun d st1 μ1 H1 v _ x1 hs1 r1 p1 => by
  cases d with
  | int i => cases r1; exact ⟨i, rfl, p1 μ1 H1 _ .refl hs1 rfl⟩
  | _ => exact p1.elim⟩
def cutD (xs : List D) (lo hi : Option Int) : List D := (xs.drop (HT.sIx xs.length 0 lo)).take (HT.sIx xs.length xs.length hi - HT.sIx xs.length 0 lo)
theorem RelDs.cutV {G : GX} {μ : List Addr} {H : Hp} {ds : List D} {vs : List V} (r : RelDs G μ H ds vs) (lo hi : Option Int) : RelDs G μ H (cutD ds lo hi) (cutV vs lo hi) := by
  unfold cutD L2.cutV
  rw [r.length]
  exact (r.drop _).take _
theorem cutD_len (xs : List D) (lo hi : Option Int) : (cutD xs lo hi).length ≤ xs.length := by
  unfold cutD
  rw [List.length_take, List.length_drop]
  omega
/-- t[lo:hi] of a tuple, of a text -/
def eSl (fe : EF) (fl fh : OF) : EF := fun env st => (fe env st).bind fun x st1 => (fl env st1).bind fun lo st2 => (fh env st2).bind fun hi st3 => match x with
  | .tup ds => .ok (.tup (cutD ds lo hi)) st3
  | _ => .bad
theorem cutV_whole {xs : List V} {lo hi : Option Int} (h : HT.sIx xs.length 0 lo = 0 ∧ HT.sIx xs.length xs.length hi = xs.length) : cutV xs lo hi = xs := by
  unfold cutV
  rw [h.1, h.2]
  simp
theorem ae_slT {lo hi : Option Expr} {gl gh : OF} {p2 : Pos} (he : AE X W e fe) (hl : AO' X W lo gl) (hh : AO' X W hi gh) : AE X W (.Subscript e (.Slice lo hi none p2) pos) (eSl fe gl gh) :=
  (pe_slice sl_tupA he hl hh).weak fun σ H Q ⟨μ, env, st, hs, er, p⟩ => ⟨μ, env, st, hs, er, Post.bind p fun x st1 μ1 H1 v _ x1 hs1 r1 p1 =>
    ⟨μ1, env, st1, hs1, er.ext hs x1, Post.bind p1 fun lo st2 μ2 H2 l _ x2 hs2 r2 p2 => ⟨μ2, env, st2, hs2, (er.ext hs x1).ext hs1 x2, Post.bind p2 fun hi st3 μ3 H3 u _ x3 hs3 r3 p3 => by
      have r1 := RelD.ext hs1 (x2.trans x3) _ _ r1
      have r2 : l = lo := r2
      have r3 : u = hi := r3
      subst r2; subst r3
      cases x with
      | tup ds =>
        obtain ⟨a, vs, rfl, q, rs⟩ := r1
        refine ⟨a, vs, rfl, .of q, fun hw => ?_, fun hw p hp => ?_⟩
        · refine p3 μ3 H3 _ .refl hs3 ⟨a, vs, rfl, q, ?_⟩
          have := rs.cutV l u
          rwa [cutV_whole hw] at this
        · exact p3 μ3 _ _ (.new hp) (hs3.new hp) ⟨p, _, rfl, upd_same, RelDs.ext hs3 (.new hp) _ _ (rs.cutV l u)⟩
      | _ => exact p3.elim⟩⟩⟩
/-- xs[lo:hi] of a list of the store -/
def lSl (fe : EF) (fl fh : OF) : LF := fun env st => (fe env st).bind fun x st1 => (fl env st1).bind fun lo st2 => (fh env st2).bind fun hi st3 => match x with
  | .ref n => (match seqOf (.ref n) st3 with
    | some ds => .ok (cutD ds lo hi) st3
    | none => .bad)
  | _ => .bad
theorem al_slL {lo hi : Option Expr} {gl gh : OF} {p2 : Pos} (he : AE X W e fe) (hl : AO' X W lo gl) (hh : AO' X W hi gh) : AL X W (.Subscript e (.Slice lo hi none p2) pos) (lSl fe gl gh) :=
  (pe_slice sl_list he hl hh).weak fun σ H Q ⟨μ, env, st, hs, er, p⟩ => ⟨μ, env, st, hs, er, Post.bind0 p fun x st1 μ1 H1 v _ x1 hs1 r1 p1 =>
    ⟨μ1, env, st1, hs1, er.ext hs x1, by
      cases q : gl env st1 with
      | bad => rw [q] at p1; exact p1
      | exc x s => rw [q] at p1; exact (Post.later (rel := relL (gx X)) (r := .exc x s) (Q := Q) p1 x1)
      | ok lo st2 =>
        rw [q, R.bind_ok] at p1
        intro μ2 H2 l x2 hs2 r2
        refine ⟨μ2, env, st2, hs2, (er.ext hs x1).ext hs1 x2, ?_⟩
        cases q : gh env st2 with
        | bad => rw [q] at p1; exact p1
        | exc x s => rw [q] at p1; exact (Post.later (rel := relL (gx X)) (r := .exc x s) (Q := Q) p1 (x1.trans x2))
        | ok hi st3 =>
          rw [q, R.bind_ok] at p1
          intro μ3 H3 u x3 hs3 r3
          have r1 := RelD.ext hs1 (x2.trans x3) _ _ r1
          have r2 : l = lo := r2
          have r3 : u = hi := r3
          subst r2; subst r3
          cases x with
          | ref n =>
            obtain ⟨a, e1, rfl⟩ := r1
            simp only at p1
            split at p1
            · rename_i ds e2
              obtain ⟨vs, hq, rs⟩ := hs3.seq e1 e2
              exact ⟨a, vs, rfl, hq, fun p hp => p1 μ3 _ _ (((x1.trans x2).trans x3).trans (.new hp)) (hs3.new hp) ⟨p, _, rfl, Ext.back ((x1.trans x2).trans x3) .refl (hs3.fresh hp) hp, hs3.fresh hp, upd_same, RelDs.ext hs3 (.new hp) _ _ (rs.cutV l u)⟩⟩
            · exact p1.elim
          | _ => exact p1.elim⟩⟩

/-! ## zip of two tuples or two lists -/
def zipD : List D → List D → List D
  | x :: xs, y :: ys => .tup [x, y] :: zipD xs ys
  | _, _ => []
def iZipF (fr : LF) : IF := fun env st => (fr env st).bind fun ds st1 => match ds with
  | [.tup xs, .tup ys] => .ok (zipD xs ys, []) st1
  | _ => .bad
theorem zipD_get : ∀ (xs ys : List D) (i : Nat), (zipD xs ys)[i]? = match xs[i]?, ys[i]? with
    | some x, some y => some (.tup [x, y])
    | _, _ => none
  | [], ys, i => by simp [zipD]
  | x :: xs, [], i => by
    simp only [zipD, List.getElem?_nil]
    split <;> simp_all
  | x :: xs, y :: ys, 0 => by simp [zipD]
  | x :: xs, y :: ys, i + 1 => by simpa [zipD] using zipD_get xs ys i
theorem zipD_len : ∀ (xs ys : List D), (zipD xs ys).length = min xs.length ys.length
  | [], ys => by simp [zipD]
  | x :: xs, [] => by simp [zipD]
  | x :: xs, y :: ys => by simp [zipD, zipD_len xs ys]
theorem IterR.zipT {G : GX} {μ : List Addr} {H : Hp} {st : Store} {a b : Addr} {vs us : List V} {xs ys : List D} (hs : HS G μ H st) (q : SqT G.K H a vs) (r : RelDs G μ H xs vs) (q' : SqT G.K H b us) (r' : RelDs G μ H ys us) :
    IterR G μ H (zipD xs ys, []) (RZ.ItzT G.K a b) where
  go := fun μ1 H1 st1 e hs1 _ i hi => by
    have hi : i < min xs.length ys.length := by rw [← zipD_len]; exact hi
    have h1 : i < vs.length := by rw [r.length]; omega
    have h2 : i < us.length := by rw [r'.length]; omega
    exact ⟨vs, us, vs[i], us[i], SqT_ext hs e q, SqT_ext hs e q', by simp [h1], by simp [h2]⟩
  yld := fun μ1 H1 st1 e hs1 _ i x H2 hi y => by
    obtain ⟨T, x1, x2, rfl, nT, rfl, f1, f2⟩ := y
    have g1 := f1 _ (SqT_ext hs e q)
    have g2 := f2 _ (SqT_ext hs e q')
    obtain ⟨d1, e1, rd1⟩ := r.get' g1
    obtain ⟨d2, e2, rd2⟩ := r'.get' g2
    have rd1 := RelD.ext hs (e.trans (.new (o := .tup [x1, x2]) nT)) _ _ rd1
    have rd2 := RelD.ext hs (e.trans (.new (o := .tup [x1, x2]) nT)) _ _ rd2
    exact ⟨.tup [d1, d2], by rw [zipD_get, e1, e2], .new nT, hs1.new nT, T, _, rfl, upd_same, .cons rd1 (.one rd2)⟩
  stop := fun μ1 H1 st1 e hs1 _ => by
    refine ⟨vs, us, SqT_ext hs e q, SqT_ext hs e q', ?_⟩
    show vs.length ≤ (zipD xs ys).length ∨ us.length ≤ (zipD xs ys).length
    rw [zipD_len, r.length, r'.length]
    omega
theorem ai_zipT {tpos p : Pos} {elts : List Expr} {kk : Nat} (hm : X.mg "zip" = none) (ha : AA X W [a, b] fr) (hg : Gl X "zip" := by rfl) (hs1 : starEach [a, b] X.env = (false, eval a X.env) :: starEach [b] X.env := by rfl)
    (hpl : (backTo pos (starEach [b] X.env)).any (·.1) = false := by rfl) : AI X W (.Tuple elts kk tpos) (.Call (.Name "zip" p) [a, b] [] pos) (iZipF fr) :=
  (RZ.pi_zipA hg hm ha hs1 hpl).weak fun σ H Q ⟨μ, env, st, hs, er, q⟩ => ⟨μ, env, st, hs, er, Post.bind q fun ds st1 μ1 H1 vs eq x1 hs' rs p1 => by
    split at p1
    · obtain ⟨v, rest, rfl, ⟨a, us, rfl, q1, r1⟩, v2, rest2, rfl, ⟨b, ws, rfl, q2, r2⟩, e0⟩ := rs
      cases e0
      exact ⟨a, b, us, ws, rfl, .inr ⟨.of q1, .of q2, p1 μ1 H1 _ .refl hs' (.zipT hs' (.of q1) r1 (.of q2) r2)⟩⟩
    · exact p1.elim⟩
end
end TK

set_option Elab.async false
set_option linter.all false
set_option maxRecDepth 100000
set_option maxHeartbeats 4000000
namespace TK
open PySem PySem.Spec
open PyProof.Rows hiding St
open L2
/-! ## raise of a class of the text that has no __init__ -/
def RaiF (G : GX) (x : Str) : Prop := ∃ C, G.mg x = some (.ref C) ∧ PySem.W.excIn G.K C HandSPX.veTail "ValueError.__new__" = true ∧ PySem.W.keepIn G.K (.ref C) = true ∧
  PySem.W.subIn G.K (.ref C) (.type "BaseException") = some true ∧ PySem.W.typeIn G.K (.ref C) = some (.type "type")
def sRaise (x : Str) : SF := fun env st => .exc env ⟨x, []⟩ st
section
variable {X : Cx} {W : WX} {pos p p2 : Pos} {lv : Nat}
theorem as_raise {x : Str} (c : Ctx X W lv) (h : RaiF (gx X) x) (hg : Gl X x := by rfl) (hdb : (x == ("__debug__" : Str)) = false := by decide) : AS X W (.Raise (some (.Call (.Name x p) [] [] p2)) none pos) (sRaise x) := by
  obtain ⟨C, h1, h2, h3, h4, h5⟩ := h
  exact (ps_raise c.calm c.tk (pmk_ownN PySem.F.excBase_ValueError h2 h1 h3 (raises_own h4 h5) hg hdb)).weak fun Dn σ H ⟨μ, env, st, hs, er, q⟩ => q μ H σ (.ref C) none .refl hs er ⟨C, h1, rfl, rfl⟩
end
end TK

set_option Elab.async false
set_option linter.all false
set_option maxRecDepth 100000
set_option maxHeartbeats 4000000
namespace TK
open PySem PySem.Spec
open PyProof.Rows hiding St
open L2

section
variable {X : Cx} {W : WX} {a b c e o : Expr} {es : List Expr} {fa fb fe fo : EF} {fl fl' fr : LF} {pos pos' : Pos} {lv : Nat}
/-! ## enumerate -/
def enumFrom : Nat → List D → List D
  | _, [] => []
  | k, x :: xs => .tup [.int k, x] :: enumFrom (k + 1) xs
theorem enumFrom_get : ∀ (k : Nat) (xs : List D) (i : Nat), (enumFrom k xs)[i]? = (xs[i]?).map fun x => .tup [.int ((k + i : Nat) : Int), x]
  | k, [], i => by simp [enumFrom]
  | k, x :: xs, 0 => by simp [enumFrom]
  | k, x :: xs, i + 1 => by
    simp only [enumFrom, List.getElem?_cons_succ]
    rw [enumFrom_get (k + 1) xs i]
    have : k + 1 + i = k + (i + 1) := by omega
    rw [this]
theorem enumFrom_len : ∀ (k : Nat) (xs : List D), (enumFrom k xs).length = xs.length
  | _, [] => rfl
  | k, x :: xs => by simp [enumFrom, enumFrom_len (k + 1) xs]
def iEnumF (fr : LF) : IF := fun env st => (fr env st).bind fun ds st1 => match ds with
  | [.tup xs] => .ok (enumFrom 0 xs, []) st1
  | [.ref n] => (match seqOf (.ref n) st1 with
    | some xs => .ok (enumFrom 0 xs, [(n, xs)]) st1
    | none => .bad)
  | _ => .bad
/-- over a new list -/
def iEnumL (fl : LF) : IF := fun env st => (fl env st).bind fun ds st1 => .ok (enumFrom 0 ds, []) st1
theorem IterR.enT {G : GX} {μ : List Addr} {H : Hp} {st : Store} {a : Addr} {vs : List V} {xs : List D} (hs : HS G μ H st) (q : SqT G.K H a vs) (r : RelDs G μ H xs vs) : IterR G μ H (enumFrom 0 xs, []) (IteT G.K a) where
  go := fun μ1 H1 st1 e hs1 _ i hi => by
    have hi : i < xs.length := by rw [← enumFrom_len 0 xs]; exact hi
    exact ⟨vs, vs[i]'(by rw [r.length]; exact hi), SqT_ext hs e q, by simp [r.length, hi]⟩
  yld := fun μ1 H1 st1 e hs1 _ i x H2 hi y => by
    obtain ⟨T, x1, rfl, nT, rfl, f1⟩ := y
    obtain ⟨d1, e1, rd1⟩ := r.get' (f1 _ (SqT_ext hs e q))
    have rd1 := RelD.ext hs (e.trans (.new (o := .tup [.int (i : Nat), x1]) nT)) _ _ rd1
    exact ⟨.tup [.int i, d1], by rw [enumFrom_get, e1]; simp, .new nT, hs1.new nT, T, _, rfl, upd_same, .cons rfl (.one rd1)⟩
  stop := fun μ1 H1 st1 e hs1 _ => ⟨vs, SqT_ext hs e q, by show vs.length ≤ (enumFrom 0 xs).length; rw [enumFrom_len, r.length]; exact Nat.le_refl _⟩
theorem IterR.enL {G : GX} {μ : List Addr} {H : Hp} {st : Store} {a : Addr} {vs : List V} {xs : List D} (hs : HS G μ H st) (hn : a ∉ μ) (q : H a = some (.lst vs)) (r : RelDs G μ H xs vs) : IterR G μ H (enumFrom 0 xs, []) (Ite G.K a) where
  go := fun μ1 H1 st1 e hs1 _ i hi => by
    have hi : i < xs.length := by rw [← enumFrom_len 0 xs]; exact hi
    exact ⟨vs, vs[i]'(by rw [r.length]; exact hi), .of (e.lst hn q), by simp [r.length, hi]⟩
  yld := fun μ1 H1 st1 e hs1 _ i x H2 hi y => by
    obtain ⟨T, x1, rfl, nT, rfl, f1⟩ := y
    obtain ⟨d1, e1, rd1⟩ := r.get' (f1 _ (.of (e.lst hn q)))
    have rd1 := RelD.ext hs (e.trans (.new (o := .tup [.int (i : Nat), x1]) nT)) _ _ rd1
    exact ⟨.tup [.int i, d1], by rw [enumFrom_get, e1]; simp, .new nT, hs1.new nT, T, _, rfl, upd_same, .cons rfl (.one rd1)⟩
  stop := fun μ1 H1 st1 e hs1 _ => ⟨vs, .of (e.lst hn q), by show vs.length ≤ (enumFrom 0 xs).length; rw [enumFrom_len, r.length]; exact Nat.le_refl _⟩
theorem IterR.enR {G : GX} {μ : List Addr} {H : Hp} {n : Nat} {a : Addr} {xs : List D} (e0 : μ[n]? = some a) : IterR G μ H (enumFrom 0 xs, [(n, xs)]) (Ite G.K a) where
  go := fun μ1 H1 st1 e hs1 g i hi => by
    obtain ⟨ν, rfl, _, _⟩ := e
    obtain ⟨vs, q, r⟩ := hs1.seq (by rw [List.getElem?_append_left (List.getElem?_eq_some_iff.mp e0).1]; exact e0) (g (n, xs) (by simp))
    have hi : i < xs.length := by rw [← enumFrom_len 0 xs]; exact hi
    exact ⟨vs, vs[i]'(by rw [r.length]; exact hi), q, by simp [r.length, hi]⟩
  yld := fun μ1 H1 st1 e hs1 g i x H2 hi y => by
    obtain ⟨ν, rfl, _, _⟩ := e
    obtain ⟨vs, q, r⟩ := hs1.seq (by rw [List.getElem?_append_left (List.getElem?_eq_some_iff.mp e0).1]; exact e0) (g (n, xs) (by simp))
    obtain ⟨T, x1, rfl, nT, rfl, f1⟩ := y
    obtain ⟨d1, e1, rd1⟩ := r.get' (f1 _ q)
    have rd1 := RelD.ext hs1 (.new (o := .tup [.int (i : Nat), x1]) nT) _ _ rd1
    exact ⟨.tup [.int i, d1], by rw [enumFrom_get, e1]; simp, .new nT, hs1.new nT, T, _, rfl, upd_same, .cons rfl (.one rd1)⟩
  stop := fun μ1 H1 st1 e hs1 g => by
    obtain ⟨ν, rfl, _, _⟩ := e
    obtain ⟨vs, q, r⟩ := hs1.seq (by rw [List.getElem?_append_left (List.getElem?_eq_some_iff.mp e0).1]; exact e0) (g (n, xs) (by simp))
    exact ⟨vs, q, by show vs.length ≤ (enumFrom 0 xs).length; rw [enumFrom_len, r.length]; exact Nat.le_refl _⟩
theorem ai_enum {tpos p : Pos} {elts : List Expr} {kk : Nat} (hm : X.mg "enumerate" = none) (ha : AA X W [a] fr) (hg : Gl X "enumerate" := by rfl) (hs1 : starEach [a] X.env = [(false, eval a X.env)] := by rfl) : AI X W (.Tuple elts kk tpos) (.Call (.Name "enumerate" p) [a] [] pos) (iEnumF fr) :=
  (pi_enumA hg hm ha hs1).weak fun σ H Q ⟨μ, env, st, hs, er, q⟩ => ⟨μ, env, st, hs, er, Post.bind q fun ds st1 μ1 H1 vs eq x1 hs' rs p1 => by
    split at p1
    · obtain ⟨v, rest, rfl, ⟨a, us, rfl, q1, r1⟩, e0⟩ := rs
      cases e0
      exact ⟨a, us, rfl, .inr ⟨.of q1, p1 μ1 H1 _ .refl hs' (.enT hs' (.of q1) r1)⟩⟩
    · obtain ⟨v, rest, rfl, ⟨a, e1, rfl⟩, e0⟩ := rs
      cases e0
      split at p1
      · rename_i xs e2
        obtain ⟨us, q1, r1⟩ := hs'.seq e1 e2
        exact ⟨a, us, rfl, .inl ⟨q1, p1 μ1 H1 _ .refl hs' (.enR e1)⟩⟩
      · exact p1.elim
    · exact p1.elim⟩
theorem ai_enumL {tpos p : Pos} {elts : List Expr} {kk : Nat} (hm : X.mg "enumerate" = none) (ha : AL X W a fl) (hg : Gl X "enumerate" := by rfl) (hs1 : starEach [a] X.env = [(false, eval a X.env)] := by rfl) : AI X W (.Tuple elts kk tpos) (.Call (.Name "enumerate" p) [a] [] pos) (iEnumL fl) :=
  (pi_enumA hg hm (pa_cons ha pa_nil hs1) hs1).weak fun σ H Q ⟨μ, env, st, hs, er, q⟩ => ⟨μ, env, st, hs, er, Post.bind q fun ds st1 μ1 H1 v eq x1 hs' rs p1 => by
    obtain ⟨a, us, rfl, _, hn, q1, r1⟩ := rs
    exact ⟨a, us, rfl, .inl ⟨.of q1, p1 μ1 H1 _ .refl hs' (.enL hs' hn q1 r1)⟩⟩⟩
/-! ## zip of two lists -/
def iZipA (fr : LF) : IF := fun env st => (fr env st).bind fun ds st1 => match ds with
  | [.tup xs, .tup ys] => .ok (zipD xs ys, []) st1
  | [.ref n, .ref m] => (match seqOf (.ref n) st1, seqOf (.ref m) st1 with
    | some xs, some ys => .ok (zipD xs ys, [(n, xs), (m, ys)]) st1
    | _, _ => .bad)
  | _ => .bad
theorem IterR.zipR {G : GX} {μ : List Addr} {H : Hp} {n m : Nat} {a b : Addr} {xs ys : List D} (ea : μ[n]? = some a) (eb : μ[m]? = some b) : IterR G μ H (zipD xs ys, [(n, xs), (m, ys)]) (Itz G.K a b) := by
  have look : ∀ {μ1 H1 st1}, Ext μ H μ1 H1 → HS G μ1 H1 st1 → gOK (zipD xs ys, [(n, xs), (m, ys)]) st1 → ∃ vs us, SqL G.K H1 a vs ∧ RelDs G μ1 H1 xs vs ∧ SqL G.K H1 b us ∧ RelDs G μ1 H1 ys us := by
    intro μ1 H1 st1 e hs1 g
    obtain ⟨ν, rfl, _, _⟩ := e
    obtain ⟨vs, q, r⟩ := hs1.seq (by rw [List.getElem?_append_left (List.getElem?_eq_some_iff.mp ea).1]; exact ea) (g (n, xs) (by simp))
    obtain ⟨us, q', r'⟩ := hs1.seq (by rw [List.getElem?_append_left (List.getElem?_eq_some_iff.mp eb).1]; exact eb) (g (m, ys) (by simp))
    exact ⟨vs, us, q, r, q', r'⟩
  refine ⟨fun μ1 H1 st1 e hs1 g i hi => ?_, fun μ1 H1 st1 e hs1 g i x H2 hi y => ?_, fun μ1 H1 st1 e hs1 g => ?_⟩
  · obtain ⟨vs, us, q, r, q', r'⟩ := look e hs1 g
    have hi : i < min xs.length ys.length := by rw [← zipD_len]; exact hi
    have h1 : i < vs.length := by rw [r.length]; omega
    have h2 : i < us.length := by rw [r'.length]; omega
    exact ⟨vs, us, vs[i], us[i], q, q', by simp [h1], by simp [h2]⟩
  · obtain ⟨vs, us, q, r, q', r'⟩ := look e hs1 g
    obtain ⟨T, x1, x2, rfl, nT, rfl, f1, f2⟩ := y
    obtain ⟨d1, e1, rd1⟩ := r.get' (f1 _ q)
    obtain ⟨d2, e2, rd2⟩ := r'.get' (f2 _ q')
    have rd1 := RelD.ext hs1 (.new (o := .tup [x1, x2]) nT) _ _ rd1
    have rd2 := RelD.ext hs1 (.new (o := .tup [x1, x2]) nT) _ _ rd2
    exact ⟨.tup [d1, d2], by rw [zipD_get, e1, e2], .new nT, hs1.new nT, T, _, rfl, upd_same, .cons rd1 (.one rd2)⟩
  · obtain ⟨vs, us, q, r, q', r'⟩ := look e hs1 g
    refine ⟨vs, us, q, q', ?_⟩
    show vs.length ≤ (zipD xs ys).length ∨ us.length ≤ (zipD xs ys).length
    rw [zipD_len, r.length, r'.length]
    omega
theorem ai_zip {tpos p : Pos} {elts : List Expr} {kk : Nat} (hm : X.mg "zip" = none) (ha : AA X W [a, b] fr) (hg : Gl X "zip" := by rfl) (hs1 : starEach [a, b] X.env = (false, eval a X.env) :: starEach [b] X.env := by rfl)
    (hpl : (backTo pos (starEach [b] X.env)).any (·.1) = false := by rfl) : AI X W (.Tuple elts kk tpos) (.Call (.Name "zip" p) [a, b] [] pos) (iZipA fr) :=
  (RZ.pi_zipA hg hm ha hs1 hpl).weak fun σ H Q ⟨μ, env, st, hs, er, q⟩ => ⟨μ, env, st, hs, er, Post.bind q fun ds st1 μ1 H1 vs eq x1 hs' rs p1 => by
    split at p1
    · obtain ⟨v, rest, rfl, ⟨a, us, rfl, q1, r1⟩, v2, rest2, rfl, ⟨b, ws, rfl, q2, r2⟩, e0⟩ := rs
      cases e0
      exact ⟨a, b, us, ws, rfl, .inr ⟨.of q1, .of q2, p1 μ1 H1 _ .refl hs' (.zipT hs' (.of q1) r1 (.of q2) r2)⟩⟩
    · obtain ⟨v, rest, rfl, ⟨a, ea, rfl⟩, v2, rest2, rfl, ⟨b, eb, rfl⟩, e0⟩ := rs
      cases e0
      split at p1
      · rename_i xs ys e1 e2
        obtain ⟨us, q1, r1⟩ := hs'.seq ea e1
        obtain ⟨ws, q2, r2⟩ := hs'.seq eb e2
        exact ⟨a, b, us, ws, rfl, .inl ⟨q1, q2, p1 μ1 H1 _ .refl hs' (.zipR ea eb)⟩⟩
      · exact p1.elim
    · exact p1.elim⟩
/-! ## list(range(..)), tuple(range(..)) -/
theorem rgRel {G : GX} {μ : List Addr} {H : Hp} (i j : Int) : RelDs G μ H (rangeD i (j - i).toNat) (rgV i j) := by
  refine .of_all (by rw [rgV_length, rangeD_len]) fun k d v e1 e2 => ?_
  rw [rangeD_get] at e1
  split at e1
  · rename_i hk
    cases e1
    unfold rgV at e2
    rw [List.getElem?_map, List.getElem?_range hk] at e2
    cases e2
    rfl
  · cases e1
def rgOk (i j : Int) : Prop := -(2 ^ 62) ≤ i ∧ i < 2 ^ 62 ∧ -(2 ^ 62) ≤ j ∧ j < 2 ^ 62 ∧ (j - i).toNat ≤ 2 ^ 24
instance (i j : Int) : Decidable (rgOk i j) := by unfold rgOk; infer_instance
noncomputable def lRng1 (fe : EF) : LF := fun env st => (fe env st).bind fun d st1 => match d with
  | .int j => hid (if rgOk 0 j then .ok (rangeD 0 j.toNat) st1 else .bad)
  | _ => .bad
theorem al_listRng1 {p p2 pos2 : Pos} (cx : Ctx X W lv) (hm : X.mg "list" = none) (hm2 : X.mg "range" = none) (ha : AE X W a fe) (hg : Gl X "list" := by rfl) (hg2 : Gl X "range" := by rfl) (na : starEach [a] X.env = (false, eval a X.env) :: starEach [] X.env := by rfl)
    (na2 : starEach [.Call (.Name "range" p2) [a] [] pos2] X.env = (false, eval (.Call (.Name "range" p2) [a] [] pos2) X.env) :: starEach [] X.env := by rfl) :
    AL X W (.Call (.Name "list" p) [.Call (.Name "range" p2) [a] [] pos2] [] pos) (lRng1 fe) := (pe_listRg cx.calm hg hm (prg_1 hg2 hm2 ha na) na2).weak fun σ H Q ⟨μ, env, st, hs, er, q⟩ =>
    ⟨μ, env, st, hs, er, Post.bind0 q fun d st1 μ1 H1 v _ x1 hs1 r1 p1 => by
      cases d with
      | int j =>
        cases r1
        simp only [hid_eq] at p1
        split at p1
        · rename_i h
          refine ⟨j, rfl, h, fun l hl => p1 μ1 _ _ (x1.trans (.new hl)) (hs1.new hl) ⟨l, _, rfl, Ext.back x1 .refl (hs1.fresh hl) hl, hs1.fresh hl, upd_same, ?_⟩⟩
          have := rgRel (G := gx X) (μ := μ1) (H := upd H1 l (.lst (rgV 0 j))) 0 j
          rwa [Int.sub_zero] at this
        · exact p1.elim
      | _ => exact p1.elim⟩
noncomputable def eRng1 (fe : EF) : EF := fun env st => (fe env st).bind fun d st1 => match d with
  | .int j => hid (if rgOk 0 j then .ok (.tup (rangeD 0 j.toNat)) st1 else .bad)
  | _ => .bad
theorem ae_tupRng1 {p p2 pos2 : Pos} (cx : Ctx X W lv) (hm : X.mg "tuple" = none) (hm2 : X.mg "range" = none) (ha : AE X W a fe) (hg : Gl X "tuple" := by rfl) (hg2 : Gl X "range" := by rfl) (na : starEach [a] X.env = (false, eval a X.env) :: starEach [] X.env := by rfl)
    (na2 : starEach [.Call (.Name "range" p2) [a] [] pos2] X.env = (false, eval (.Call (.Name "range" p2) [a] [] pos2) X.env) :: starEach [] X.env := by rfl) :
    AE X W (.Call (.Name "tuple" p) [.Call (.Name "range" p2) [a] [] pos2] [] pos) (eRng1 fe) := (pe_tupRg cx.calm hg hm (prg_1 hg2 hm2 ha na) na2).weak fun σ H Q ⟨μ, env, st, hs, er, q⟩ =>
    ⟨μ, env, st, hs, er, Post.bind0 q fun d st1 μ1 H1 v _ x1 hs1 r1 p1 => by
      cases d with
      | int j =>
        cases r1
        simp only [hid_eq] at p1
        split at p1
        · rename_i h
          refine ⟨j, rfl, h, fun l hl => p1 μ1 _ _ (x1.trans (.new hl)) (hs1.new hl) ⟨l, _, rfl, upd_same, ?_⟩⟩
          have := rgRel (G := gx X) (μ := μ1) (H := upd H1 l (.tup (rgV 0 j))) 0 j
          rwa [Int.sub_zero] at this
        · exact p1.elim
      | _ => exact p1.elim⟩
/-! ## pop -/
theorem ae_pop {apos cpos : Pos} (ho : AE X W o fo) (hbase : attributeBase o "pop" X.env (eval o X.env) = eval o X.env := by rfl) (hline : (apos.endLine == cpos.line) = true := by rfl) : AE X W (.Call (.Attribute o "pop" apos) [] [] cpos) (eM isLst popG fo lNil) :=
  ae_bm0 PySem.F.plainAttrs_list PySem.F.slot_list_pop PySem.F.type_list_pop mt_pop tyLst popA ho hbase hline
theorem ae_popAt {apos cpos : Pos} (ho : AE X W o fo) (ha : AA X W [e] fr) (hbase : attributeBase o "pop" X.env (eval o X.env) = eval o X.env := by rfl)
    (hfew : ((backTo cpos (starEach [e] X.env)).all (fun x => !x.1) && (backToKw cpos (keywordEach [] X.env)).all (fun x => x.1.isSome)
      && decide (([e] : List Expr).length + ([] : List Keyword).length + (if ([] : List Keyword).isEmpty then 0 else 1) < 30)) = true := by rfl)
    (hline : (apos.endLine == cpos.line) = true := by rfl) (hs : starEach [e] X.env = (false, eval e X.env) :: starEach [] X.env := by rfl) : AE X W (.Call (.Attribute o "pop" apos) [e] [] cpos) (eM isLst popAtG fo fr) :=
  ae_bm PySem.F.plainAttrs_list PySem.F.slot_list_pop PySem.F.type_list_pop mt_popAt tyLst popAtA ho ha hbase hfew hline hs rfl
end

/-! ## a def that calls itself: nothing is promised at the bottom -/
theorem FnA.bottom {P : Program} {w : World} {G : GX} {base : Heap} {x qual : Str} {st : Stmt} {f : Addr} {fd : FuncData} {N ps : List Str} {k : Nat} (F : Fun G.K x qual st f fd) (S : FnScope N ps (defScope st)) (hm : G.mg x = some (.ref f)) (hb : Binds G.K fd ps []) :
    FnA G P w base (k + 1) x ps.length (fun _ _ => .bad) := by
  refine ⟨f, fd, ps, ?_, hm, F.kp, hb⟩
  refine F.okX S (fun vs H Q E q => ?_) fun cdv A outer s H vs Q E hr hsp => ?_
  · obtain ⟨μ, st, ds, _, r, _, hl⟩ := q
    rw [r.length, hl]
  · obtain ⟨μ, sto, ds, hs, r, p, hl⟩ := hsp
    exact p.elim
end TK

set_option Elab.async false
set_option linter.all false
set_option maxRecDepth 100000
set_option maxHeartbeats 4000000
namespace TK
open PySem PySem.Spec
open PyProof.Rows hiding St
open L2
/-! # the ends -/
section
variable {G : GX} {P : Program} {w : World} {base : Heap}
theorem FnOk.ofA {x qual : Str} {st : Stmt} {f : Addr} {fd : FuncData} {N ps : List Str} {k : Nat} {body : SF} (F : Fun G.K x qual st f fd) (S : FnScope N ps (defScope st))
    (h : ∀ (cdv : Value) (A : Around) (outer : List Env) (s : Shared) (H : Hp) (E : XK),
      Ctx (cxOf (L2.CX P w) P w G.K G.mg base N qual (defScope st) f cdv A outer s H E) (fun C od _ H' => E C od H') k → ASs (cxOf (L2.CX P w) P w G.K G.mg base N qual (defScope st) f cdv A outer s H E) (fun C od _ H' => E C od H') (defBody st) body) :
    FnOk P w G.K G.mg base (L2.CX P w) (k + 1) f fd ps (spA G (runDef N.length body) ps.length) := by
  refine F.okX S (fun vs H Q E q => ?_) fun cdv A outer s H vs Q E hr hsp => ?_
  · obtain ⟨μ, st, ds, _, r, _, hl⟩ := q
    rw [r.length, hl]
  · obtain ⟨μ, sto, ds, hs, r, p, hl⟩ := hsp
    have c : Ctx (cxOf (L2.CX P w) P w G.K G.mg base N qual (defScope st) f cdv A outer s H E) (fun C od _ H' => E C od H') k :=
      ⟨S.nd, rfl, hr, passes_of rfl, takes_of rfl rfl rfl rfl⟩
    refine ⟨_, h cdv A outer s H E c, ?_⟩
    refine ⟨μ, ds.map some ++ List.replicate (N.length - ds.length) none, sto, hs, EnvR.start (n := N.length) r, ?_⟩
    · unfold runDef at p
      cases q : body (ds.map some ++ List.replicate (N.length - ds.length) none) sto with
      | next env' st' => rw [q] at p; exact fun μ' H' σ' e hs' er' => p μ' H' .non e hs' rfl
      | ret d st' => rw [q] at p; exact p
      | brk env' st' => rw [q] at p; exact p.elim
      | cont env' st' => rw [q] at p; exact p.elim
      | exc env' x st' => rw [q] at p; exact fun μ' H' σ' C od e hs' er' rx => p μ' H' C od e hs' rx
      | bad => rw [q] at p; exact p.elim
end
/-- no list among the module's own objects -/
def noListK (K : PySem.W.Frag) : Bool := K.all fun p => match p.2.cls with
  | .type n => n != "list"
  | _ => true
theorem noListK_ok {K : PySem.W.Frag} (h : noListK K = true) {a : Addr} {o : Obj} (e : K.lookup a = some o) : o.cls ≠ .type "list" := by
  unfold noListK at h
  rw [List.all_eq_true] at h
  have key : ∀ (l : List (Addr × Obj)), l.lookup a = some o → ∃ b, (b, o) ∈ l := by
    intro l
    induction l with
    | nil => intro e; cases e
    | cons p r ih =>
      intro e
      obtain ⟨b, o'⟩ := p
      rw [List.lookup_cons] at e
      cases q : a == b with
      | true => rw [q] at e; cases e; exact ⟨b, List.mem_cons_self⟩
      | false => rw [q] at e; obtain ⟨b', hb⟩ := ih e; exact ⟨b', List.mem_cons_of_mem _ hb⟩
  obtain ⟨b, hb⟩ := key K e
  have := h _ hb
  intro z
  simp [z] at this
theorem relDs_ints {G : GX} {μ : List Addr} {H : Hp} : ∀ ns : List Int, RelDs G μ H (ns.map D.int) (ns.map V.int)
  | [] => rfl
  | n :: ns => ⟨_, _, rfl, rfl, relDs_ints ns⟩
theorem law_start {G : GX} {H : Hp} {a : Addr} {ns : List Int} {m : List D → Store → R D} (hk : noListK G.K = true) (hO : Only H) (hS : SqL G.K H a (ns.map V.int))
    (hm : ∃ st', m [.ref 0] [.rol (ns.map D.int)] = .ok (.bl true) st') : spA G m 1 [.ref a] H (fun v _ => v = .bl true) (fun _ _ _ => False) := by
  have hf : ∃ ob, H a = some (.frz ob (.lst (ns.map V.int))) := by
    rcases hS with (hS | ⟨ob, hS⟩) | ⟨o, its, n, h1, h2, _⟩
    · rcases hO a with z | ⟨o, xs, z⟩
      · rw [hS] at z; cases z
      · rw [hS] at z; cases z
    · exact ⟨ob, hS⟩
    · exact absurd h2 (noListK_ok hk h1)
  obtain ⟨ob, hf⟩ := hf
  obtain ⟨st', hm⟩ := hm
  refine ⟨[a], [.rol (ns.map D.int)], [.ref 0], ⟨by simp, rfl, fun i b o e1 e2 => ?_⟩, ⟨_, _, rfl, ⟨a, rfl, rfl⟩, rfl⟩, ?_, rfl⟩
  · cases i with
    | zero =>
      cases e1; cases e2
      exact ⟨_, hf, ob, _, rfl, relDs_ints ns⟩
    | succ i => cases e1
  · rw [hm]
    intro μ' H' v _ _ r
    exact r
/-- the law's promise at the head -/
def spEnd (K : PySem.W.Frag) (n : Nat) : Sp := fun vs H Q E => ∃ (a : Addr) (ns : List Int), vs = [.ref a] ∧ ns.length ≤ n ∧ Only H ∧ SqL K H a (ns.map V.int) ∧ ∀ H', Q (.bl true) H'
theorem FnOk.atEnd {P : Program} {w : World} {K : PySem.W.Frag} {mg : Str → Option Value} {base : Heap} {CX : CXT} {k n : Nat} {f : Addr} {fd : FuncData} {ps : List Str} {m : List D → Store → R D} (F : FnOk P w K mg base CX k f fd ps (spA ⟨K, mg⟩ m 1))
    (hk : noListK K = true) (hm : ∀ ns : List Int, ns.length ≤ n → ∃ st', m [.ref 0] [.rol (ns.map D.int)] = .ok (.bl true) st') : FnOk P w K mg base CX k f fd ps (spEnd K n) :=
  F.imp fun vs H Q E ⟨a, ns, e, hl, hO, hS, hQ⟩ => by
    subst e
    obtain ⟨μ, st, ds, h1, h2, h3, h4⟩ := law_start (G := ⟨K, mg⟩) hk hO hS (hm ns hl)
    exact ⟨μ, st, ds, h1, h2, by
      cases q : m ds st with
      | ok d st' =>
        rw [q] at h3
        intro μ' H' y e1 e2 e3
        have := h3 μ' H' y e1 e2 e3
        subst this
        exact hQ H'
      | exc x st' => rw [q] at h3; exact fun μ' H' C od e1 e2 e3 => (h3 μ' H' C od e1 e2 e3).elim
      | bad => rw [q] at h3; exact h3.elim, h4⟩
theorem CX_no {P : Program} {w : World} (H : Hp) (s : Shared) (e : Value) (s' : Shared) (h : L2.CX P w [] H s (fun _ _ _ => False) e s') : False := by
  obtain ⟨_, _, _, _, _, _, _, _, _, _, _, _, z⟩ := h
  exact z
theorem funF_of {K : PySem.W.Frag} {h : Heap} {mg : Str → Option Value} {x : Str} {st : Stmt} (X : K.In h) (N : h.Ns mainGlobals mg) {f : Addr} {od an : Option Addr} {sl : Array (Option Value)} {oc kV dc pm cd ct : Value}
    (a : PySem.W.nsIn K mainGlobals x = some (some (.ref f))) (l : K.lookup f = some ⟨oc, od, .func (PySem.W.fnOf x x (defArgs st) (defBody st) (defScope st) .none kV dc pm an cd ct), sl⟩)
    (c : PySem.W.codeIn K cd x = true) (k : PySem.W.keepIn K (.ref f) = true) : FunF ⟨K, mg⟩ x st := ⟨f, _, fun_mk (st := st) l c k, PySem.W.mg_of X N a⟩
theorem raiF_of {K : PySem.W.Frag} {h : Heap} {mg : Str → Option Value} {x : Str} (X : K.In h) (N : h.Ns mainGlobals mg) {C : Addr} (a : PySem.W.nsIn K mainGlobals x = some (some (.ref C)))
    (e : PySem.W.excIn K C HandSPX.veTail "ValueError.__new__" = true) (k : PySem.W.keepIn K (.ref C) = true) (s : PySem.W.subIn K (.ref C) (.type "BaseException") = some true)
    (t : PySem.W.typeIn K (.ref C) = some (.type "type")) : RaiF ⟨K, mg⟩ x := ⟨C, PySem.W.mg_of X N a, e, k, s, t⟩
end TK

set_option Elab.async false
set_option linter.all false
set_option maxRecDepth 100000
set_option maxHeartbeats 4000000
namespace TK
open PySem PySem.Spec
open PyProof.Rows hiding St
open L2
/-! # what is never reached; instances made; fields written -/
def sBad : SF := fun _ _ => .bad
def eBad : EF := fun _ _ => .bad
section
variable {X : Cx} {W : WX} {v o e : Expr} {es : List Expr} {fo fe : EF} {fr : LF} {pos pos' p : Pos} {lv k n : Nat}
theorem as_never (s : Stmt) : AS X W s sBad := ⟨fun pins s σ H D I ⟨μ, env, st, hs, er, q⟩ => q.elim⟩
theorem ae_never (e : Expr) : AE X W e eBad := ⟨fun pins s σ H D I ⟨μ, env, st, hs, er, q⟩ => q.elim⟩
theorem RelF.put {G : GX} {μ : List Addr} {H : Hp} {f : Str} {y : D} {v : V} (ry : RelD G μ H y v) : ∀ {fs : List (Str × D)} {vs : List (Str × V)}, RelF G μ H fs vs → RelF G μ H (putFD f y fs) (putF f v vs)
  | [], _, r => by
    cases r
    exact ⟨v, [], rfl, ry, rfl⟩
  | (x, d) :: fs, _, r => by
    obtain ⟨z, rest, rfl, rd, rs⟩ := r
    unfold putFD putF
    by_cases h : x = f
    · rw [if_pos h, if_pos h]
      exact ⟨v, rest, rfl, ry, rs⟩
    · rw [if_neg h, if_neg h]
      exact ⟨z, _, rfl, rd, RelF.put ry rs⟩
theorem RelF.length {G : GX} {μ : List Addr} {H : Hp} : ∀ {fs : List (Str × D)} {vs : List (Str × V)}, RelF G μ H fs vs → vs.length = fs.length
  | [], _, r => by cases r; rfl
  | (x, d) :: fs, _, r => by
    obtain ⟨z, rest, rfl, rd, rs⟩ := r
    simp [RelF.length rs]
def sFldA (cs : List Str) (f : Str) (fo fe : EF) : SF := fun env st => sOf (fe env st) env fun y st1 => sOf (fo env st1) env fun x st2 => match x with
  | .ref n => (match st2[n]? with
    | some (.ins c fs) => if c ∈ cs ∧ fs.length < 1000 then .next env (st2.set n (.ins c (putFD f y fs))) else .bad
    | _ => .bad)
  | _ => .bad
theorem as_fld (cs : List Str) {f : Str} (ho : AE X W o fo) (he : AE X W v fe) (hc : ∀ c ∈ cs, ∃ l, ClsA (gx X) c l ∧ f ∈ l) (hs : swapsWith v (some (.Attribute o f pos')) pos.line X.env = pure false := by rfl) : AS X W (.Assign [.Attribute o f pos'] v pos) (sFldA cs f fo fe) :=
  (ps_fld ho he hs).weak fun Dn σ H ⟨μ, env, st, hs, er, p⟩ => ⟨μ, env, st, hs, er, PostS.bind p hs er fun y st1 μ1 H1 v _ x1 hs1 r1 p1 =>
    ⟨μ1, env, st1, hs1, er.ext hs x1, PostS.bind p1 hs1 (er.ext hs x1) fun x st2 μ2 H2 ov _ x2 hs2 r2 p2 => by
      have r1 := RelD.ext hs1 x2 _ _ r1
      have er2 := (er.ext hs x1).ext hs1 x2
      split at p2
      · obtain ⟨a, e1, rfl⟩ := r2
        split at p2
        · rename_i c fs e2
          obtain ⟨_, h1, C, dx, vs, rfl, hm, rf⟩ := hs2.obj _ a _ e1 e2
          split at p2
          · rename_i hcs
            obtain ⟨l, k, hf⟩ := hc c hcs.1
            obtain ⟨k1, k2⟩ := k.ok C hm
            exact ⟨a, C, dx, vs, rfl, h1, k1, k2 f hf, by rw [rf.length]; exact hcs.2, p2 μ2 _ σ (.put e1 h1) (hs2.put e1 ⟨C, dx, _, rfl, hm, rf.put r1⟩) (er2.wr (hs2.noTupAt e1))⟩
          · exact p2.elim
        · exact p2.elim
      · exact p2.elim⟩⟩
/-- an instance: its __init__ ended with None -/
def mkR (n : Nat) (r : R D) : R D := match r with
  | .ok .non st => .ok (.ref n) st
  | _ => .bad
noncomputable def eMake (x : Str) (m : List D → Store → R D) (fr : LF) : EF := fun env st => (fr env st).bind fun ds st1 => gcR st1 (mkR st1.length (m (.ref st1.length :: ds) (st1 ++ [.ins x []])))
structure MkA (G : GX) (P : Program) (w : World) (base : Heap) (k : Nat) (x : Str) (n : Nat) (m : List D → Store → R D) : Prop where
  ex : ∃ C f fd ps, FnOk P w G.K G.mg base (L2.CX P w) k f fd ps (spA G m n) ∧ G.mg x = some (.ref C) ∧ Mk G.K C f ∧ Binds G.K fd ps []
theorem ae_make {m : List D → Store → R D} {x : Str} (F : MkA (gx X) X.prog X.w X.base k x (n + 1) m) (c : Ctx X W lv) (ha : AA X W (e :: es) fr) (hn : ∀ env st ds st', fr env st = .ok ds st' → ds.length = n) (hk : k + 1 ≤ lv := by decide) (hg : Gl X x := by rfl)
    (hdb : (x == ("__debug__" : Str)) = false := by decide) (he : starEach (e :: es) X.env = (false, eval e X.env) :: starEach es X.env := by rfl) (hpl : (backTo pos (starEach es X.env)).any (·.1) = false := by rfl) :
    AE X W (.Call (.Name x p) (e :: es) [] pos) (eMake x m fr) := by
  obtain ⟨C, f, fd, ps, F, hm, M, hb⟩ := F.ex
  refine (pe_make (E := fun _ _ _ => False) M F (c.room.mono hk) hg hm hb .nil (fun pins σ H s e s' I z => by obtain ⟨_, _, _, _, _, _, _, _, _, _, _, _, z⟩ := z; exact z.elim) ha hdb he hpl).weak fun σ H Q ⟨μ, env, st, hs, er, q⟩ =>
    ⟨μ, env, st, hs, er, Post.bind q fun ds st1 μ1 H1 vs e1 x1 hs1 r1 p1 => ?_⟩
  intro a dx ha0 hd0 hne
  have p1 := Post.gc hs1 p1
  have hs2 : HS (gx X) μ1 (upd H1 dx (.own a)) st1 := hs1.new hd0
  have ex2 : Ext μ1 H1 μ1 (upd H1 dx (.own a)) := .new hd0
  have ha1 : (upd H1 dx (.own a)) a = none := by rw [upd_ne (Ne.symm hne)]; exact ha0
  obtain ⟨hs3, ex3⟩ := hs2.push (o := .ins C dx []) (ao := .ins x []) ha1 ⟨C, dx, [], rfl, hm, rfl⟩
  have hx : (μ1 ++ [a])[st1.length]? = some a := by rw [← hs1.len, List.getElem?_append_right (Nat.le_refl _)]; simp
  refine ⟨μ1 ++ [a], st1 ++ [.ins x []], .ref st1.length :: ds, hs3, ⟨_, _, rfl, ⟨a, hx, rfl⟩, ?_⟩, ?_, by simp [hn env st ds st1 e1]⟩
  · rw [List.append_nil]
    exact RelDs.ext hs1 (ex2.trans ex3) _ _ r1
  · cases q2 : m (.ref st1.length :: ds) (st1 ++ [.ins x []]) with
    | ok d st2 =>
      rw [q2] at p1
      cases d with
      | non =>
        intro μ' H' y x4 hs4 r4
        refine ⟨r4, p1 μ' H' (.ref a) ((ex2.trans ex3).trans x4) hs4 ⟨a, ?_, rfl⟩⟩
        obtain ⟨ν, rfl, _⟩ := x4
        rw [List.getElem?_append_left (List.getElem?_eq_some_iff.mp hx).1]
        exact hx
      | _ => exact p1.elim
    | exc x' st2 => rw [q2] at p1; exact p1.elim
    | bad => rw [q2] at p1; exact p1.elim
theorem cls1 {G : GX} {c f : Str} {l : List Str} (h : ClsA G c l) (hf : f ∈ l := by decide +kernel) : ∀ c' ∈ [c], ∃ l, ClsA G c' l ∧ f ∈ l := fun c' hc => by
  obtain rfl : c' = c := by simpa using hc
  exact ⟨l, h, hf⟩
/-- a class of the text, its __init__ -/
def ClsF (G : GX) (x qual : Str) (st : Stmt) : Prop := ∃ C f fd, G.mg x = some (.ref C) ∧ Mk G.K C f ∧ Fun G.K "__init__" qual st f fd
theorem clsF_of {K : PySem.W.Frag} {h : Heap} {mg : Str → Option Value} {x qual : Str} {st : Stmt} (X : K.In h) (N : h.Ns mainGlobals mg) {C f : Addr} {od an : Option Addr} {sl : Array (Option Value)} {oc kV dc pm cd ct : Value}
    (aC : PySem.W.nsIn K mainGlobals x = some (some (.ref C))) (a1 : PySem.W.findIn K (.ref C) "__init__" = some (some (.ref f))) (i1 : PySem.W.isFn K (.ref f) = true)
    (l1 : K.lookup f = some ⟨oc, od, .func (PySem.W.fnOf "__init__" qual (defArgs st) (defBody st) (defScope st) .none kV dc pm an cd ct), sl⟩) (c1 : PySem.W.codeIn K cd qual = true) (k1 : PySem.W.keepIn K (.ref f) = true)
    (mk : PySem.W.makesIn K C = true) (kc : PySem.W.keepIn K (.ref C) = true) : ClsF ⟨K, mg⟩ x qual st := ⟨C, f, _, PySem.W.mg_of X N aC, ⟨mk, a1, i1, kc⟩, fun_mk (st := st) l1 c1 k1⟩
theorem clsA_of {K : PySem.W.Frag} {h : Heap} {mg : Str → Option Value} {x : Str} {l : List Str} (X : K.In h) (N : h.Ns mainGlobals mg) {C : Addr} (aC : PySem.W.nsIn K mainGlobals x = some (some (.ref C)))
    (pg : PySem.W.plainGet K C Str.empty = true) (hd : PySem.W.hasDictIn K C = true) (po : PySem.W.plainOver K C = true) (sa : PySem.W.findIn K (.ref C) "__setattr__" = some (some (.builtin "object.__setattr__")))
    (hl : ∀ f ∈ l, PySem.W.findIn K (.ref C) f = some none) : ClsA ⟨K, mg⟩ x l := ⟨fun C' hm => by
      have e := (PySem.W.mg_of X N aC).symm.trans hm
      cases e
      exact ⟨⟨pg, hd, po, sa⟩, hl⟩⟩
end
section
variable {G : GX} {P : Program} {w : World} {base : Heap}
theorem MkA.of {x qual : Str} {st : Stmt} {N ps : List Str} {k : Nat} {body : SF} (T : ClsF G x qual st) (S : FnScope N ps (defScope st)) (hb : ∀ f fd, Fun G.K "__init__" qual st f fd → Binds G.K fd ps [])
    (h : ∀ (f : Addr) (cdv : Value) (A : Around) (outer : List Env) (s : Shared) (H : Hp) (E : XK),
      Ctx (cxOf (L2.CX P w) P w G.K G.mg base N qual (defScope st) f cdv A outer s H E) (fun C od _ H' => E C od H') k → ASs (cxOf (L2.CX P w) P w G.K G.mg base N qual (defScope st) f cdv A outer s H E) (fun C od _ H' => E C od H') (defBody st) body) :
    MkA G P w base (k + 1) x ps.length (runDef N.length body) := by
  obtain ⟨C, f, fd, hm, M, F⟩ := T
  exact ⟨C, f, fd, ps, FnOk.ofA F S (h f), hm, M, hb f fd F⟩
end
/-! ### a range downwards -/
def rangeS (lo c : Int) (n : Nat) : List D := (List.range n).map fun (i : Nat) => D.int (lo + (i : Int) * c)
theorem rangeS_len (lo c : Int) (n : Nat) : (rangeS lo c n).length = n := by simp [rangeS]
theorem rangeS_get (lo c : Int) (n i : Nat) : (rangeS lo c n)[i]? = if i < n then some (.int (lo + (i : Int) * c)) else none := by
  unfold rangeS
  rw [List.getElem?_map]
  by_cases h : i < n
  · rw [if_pos h, List.getElem?_range h]; rfl
  · rw [if_neg h, List.getElem?_eq_none (by simpa using h)]; rfl
theorem IterR.rngS {G : GX} {μ : List Addr} {H : Hp} {lo c : Int} {n : Nat} : IterR G μ H (rangeS lo c n, []) (Itc lo c n) where
  go := fun μ1 H1 st1 e hs1 _ i hi => by
    have h : i < n := by simpa [rangeS_len] using hi
    exact h
  yld := fun μ1 H1 st1 e hs1 _ i x H2 hi y => by
    obtain ⟨rfl, rfl⟩ := y
    have hi : i < n := by simpa [rangeS_len] using hi
    exact ⟨.int (lo + i * c), by rw [rangeS_get, if_pos hi], .refl, hs1, rfl⟩
  stop := fun μ1 H1 st1 e hs1 _ => by show n ≤ _; simp [rangeS_len]
noncomputable def rngR3 (i j c : Int) (st : Store) : R Its := hid (if c = -1 ∧ -(2 ^ 62) ≤ i ∧ i < 2 ^ 62 ∧ -(2 ^ 62) ≤ j ∧ j < 2 ^ 62 then .ok (rangeS i (-1) (i - j).toNat, []) st else .bad)
noncomputable def iRng3F (fa : LF) : IF := fun env st => (fa env st).bind fun ds st1 => match ds with
  | [.int i, .int j, .int c] => rngR3 i j c st1
  | _ => .bad
section
variable {X : Cx} {W : WX} {tg a b c : Expr} {fa : LF} {pos p : Pos}
theorem ai_range3 (hm : X.mg "range" = none) (ha : AA X W [a, b, c] fa) (hg : Gl X "range" := by rfl)
    (hs : starEach [a, b, c] X.env = (false, eval a X.env) :: starEach [b, c] X.env := by rfl) (hpl : (backTo pos (starEach [b, c] X.env)).any (·.1) = false := by rfl) :
    AI X W tg (.Call (.Name "range" p) [a, b, c] [] pos) (iRng3F fa) :=
  (pi_range3 hg hm ha hs hpl).weak fun σ H Q ⟨μ, env, st, hs, er, q⟩ => ⟨μ, env, st, hs, er, Post.bind q fun ds st1 μ1 H1 vs eq x1 hs' rs p1 => by
    split at p1
    · rename_i i j k
      obtain ⟨v, rest, rfl, rd, v2, rest2, rfl, rd2, v3, rest3, rfl, rd3, e0⟩ := rs
      cases e0; cases rd; cases rd2; cases rd3
      unfold rngR3 at p1
      rw [hid_eq] at p1
      split at p1
      · rename_i h
        obtain ⟨rfl, h1, h2, h3, h4⟩ := h
        exact ⟨i, j, -1, _, rfl, RgC.neg h1 h2 h3 h4, p1 μ1 H1 _ .refl hs' .rngS⟩
      · exact p1.elim
    · exact p1.elim⟩
end
theorem rngR3_eq {i : Int} {n : Nat} {st : Store} (e : i + 1 = n) (h : n ≤ 1000000) : rngR3 i (-1) (-1) st = .ok (rangeS i (-1) n, []) st := by
  have h2 : (2 : Int) ^ 62 = 4611686018427387904 := by decide
  unfold rngR3
  rw [hid_eq, h2]
  have : (-1 : Int) = -1 ∧ -4611686018427387904 ≤ i ∧ i < 4611686018427387904 ∧ -4611686018427387904 ≤ (-1 : Int) ∧ (-1 : Int) < 4611686018427387904 := by omega
  rw [if_pos this]
  have : (i - -1).toNat = n := by omega
  rw [this]
theorem iRng3F_ap (fa : LF) (env : AEnv) (st : Store) : iRng3F fa env st = ((fa env st).bind fun ds st1 => match ds with
  | [.int i, .int j, .int c] => rngR3 i j c st1
  | _ => .bad) := (Eq.refl _).trans rfl
end TK

set_option Elab.async false
set_option linter.all false
set_option maxRecDepth 100000
set_option maxHeartbeats 4000000
namespace TK
open PySem PySem.Spec
open PyProof.Rows hiding St
open L2
/-! # x in l, x not in l: l a list, items plain data -/
def inP (x y : D) (st : Store) : Option Bool := match toP st 50 x, toP st 50 y with
  | some p, some (.list ps) => if SeqAt.shaped p = true ∧ SeqAt.shaped (.list ps) = true then some (ps.any fun z => PyData.eqv z p) else none
  | _, _ => none
def inD (x y : D) (st : Store) : R D := match inP x y st with
  | some b => .ok (.bl b) st
  | none => .bad
def ninD (x y : D) (st : Store) : R D := match inP x y st with
  | some b => .ok (.bl (!b)) st
  | none => .bad
section
variable {G : GX} {μ : List Addr} {H : Hp} {st : Store}
theorem inP_ok (hs : HS G μ H st) {x y : D} {v u : V} {b : Bool} (rx : RelD G μ H x v) (ry : RelD G μ H y u) (e : inP x y st = some b) :
    ∃ d ds, Dp G.K H v d ∧ Dp G.K H u (.list ds) ∧ SeqAt.shaped d = true ∧ SeqAt.shaped (.list ds) = true ∧ (ds.any fun z => PyData.eqv z d) = b := by
  unfold inP at e
  split at e
  · rename_i p q e1 e2
    split at e
    · rename_i h
      cases e
      exact ⟨p, q, toP_ok hs 50 x v p rx e1, toP_ok hs 50 y u _ ry e2, h.1, h.2, rfl⟩
    · cases e
  · cases e
theorem inA : OpA G inD (rInD G.K) := by
  intro W σ μ H st x y v u Q hs rx ry p
  unfold inD at p
  split at p
  · rename_i b e
    obtain ⟨d, e, h1, h2, h3, h4, h5⟩ := inP_ok hs rx ry e
    exact ⟨d, e, h1, h2, h3, h4, by rw [h5]; exact p μ H _ .refl hs rfl⟩
  · exact p.elim
theorem ninA : OpA G ninD (rNotInD G.K) := by
  intro W σ μ H st x y v u Q hs rx ry p
  unfold ninD at p
  split at p
  · rename_i b e
    obtain ⟨d, e, h1, h2, h3, h4, h5⟩ := inP_ok hs rx ry e
    exact ⟨d, e, h1, h2, h3, h4, by rw [h5]; exact p μ H _ .refl hs rfl⟩
  · exact p.elim
end
section
variable {X : Cx} {W : WX} {a b : Expr} {fa fb : EF} {pos : Pos} {lv : Nat}
theorem Room.units65 {k : Nat} {A : Around} (r : Room k A) : A.units + 65 < cLine := by have := r.un; omega
theorem ae_in (cx : Ctx X W lv) (ha : AE X W a fa) (hb : AE X W b fb) (hm : behindInMarks .In b = false := by with_unfolding_all rfl) : AE X W (.Compare a [.In] [b] pos) (e2 inD fa fb) := ae_cmp (op_inD (Room.units65 cx.room)) inA ha hb hm
theorem ae_nin (cx : Ctx X W lv) (ha : AE X W a fa) (hb : AE X W b fb) (hm : behindInMarks .NotIn b = false := by with_unfolding_all rfl) : AE X W (.Compare a [.NotIn] [b] pos) (e2 ninD fa fb) := ae_cmp (op_notInD (Room.units65 cx.room)) ninA ha hb hm
end
end TK

set_option Elab.async false
set_option linter.all false
set_option maxRecDepth 100000
set_option maxHeartbeats 4000000
namespace TK
open PySem PySem.Spec
open PyProof.Rows hiding St
open L2
/-! # in a tuple of flat things; pairs stored; lists times ints; is of flags; name op= int -/
def flatD : D → Bool
  | .non => true
  | .bl _ => true
  | .int _ => true
  | .str _ => true
  | _ => false
def flV : D → V
  | .bl b => .bl b
  | .int i => .int i
  | .str x => .str x
  | _ => .non
section
variable {G : GX} {μ : List Addr} {H : Hp} {st : Store}
theorem flV_ok {d : D} {v : V} (r : RelD G μ H d v) (h : flatD d = true) : v = flV d ∧ flatV v = true := by
  cases d with
  | non => cases r; exact ⟨rfl, rfl⟩
  | bl b => cases r; exact ⟨rfl, rfl⟩
  | int b => cases r; exact ⟨rfl, rfl⟩
  | str b => cases r; exact ⟨rfl, rfl⟩
  | _ => cases h
theorem flVs_ok : ∀ {ds : List D} {vs : List V}, RelDs G μ H ds vs → ds.all flatD = true → vs = ds.map flV ∧ vs.all flatV = true
  | [], _, r, _ => by cases r; exact ⟨rfl, rfl⟩
  | d :: ds, _, r, h => by
    obtain ⟨v, rest, rfl, rd, rs⟩ := r
    rw [List.all_cons, Bool.and_eq_true] at h
    obtain ⟨e1, f1⟩ := flV_ok rd h.1
    obtain ⟨e2, f2⟩ := flVs_ok rs h.2
    exact ⟨by rw [e1, e2]; rfl, by rw [List.all_cons, f1, f2]; rfl⟩
end
def inT (x y : D) : Option Bool := match y with
  | .tup ds => if flatD x = true ∧ ds.all flatD = true then some (inV (flV x) (ds.map flV)) else none
  | _ => none
def inD2 (x y : D) (st : Store) : R D := match inT x y with
  | some b => .ok (.bl b) st
  | none => inD x y st
def ninD2 (x y : D) (st : Store) : R D := match inT x y with
  | some b => .ok (.bl (!b)) st
  | none => ninD x y st
section
variable {G : GX} {μ : List Addr} {H : Hp} {st : Store}
theorem inT_ok {x y : D} {v u : V} {b : Bool} (rx : RelD G μ H x v) (ry : RelD G μ H y u) (e : inT x y = some b) :
    ∃ p xs, u = .ref p ∧ (SqL G.K H p xs ∨ SqT G.K H p xs) ∧ flatV v = true ∧ xs.all flatV = true ∧ inV v xs = b := by
  unfold inT at e
  split at e
  · rename_i ds
    split at e
    · rename_i h
      cases e
      obtain ⟨a, vs, rfl, q, rs⟩ := ry
      obtain ⟨e1, f1⟩ := flV_ok rx h.1
      obtain ⟨e2, f2⟩ := flVs_ok rs h.2
      exact ⟨a, vs, rfl, .inr (.of q), f1, f2, by rw [e1, e2]⟩
    · cases e
  · cases e
theorem in2A : OpA G inD2 (fun x y H Q => rIn G.K false x y H Q ∨ rInD G.K x y H Q) := by
  intro W σ μ H st x y v u Q hs rx ry p
  unfold inD2 at p
  split at p
  · rename_i b e
    obtain ⟨a, xs, h1, h2, h3, h4, h5⟩ := inT_ok rx ry e
    exact .inl ⟨a, xs, h1, h2, h3, h4, by rw [if_neg (by decide), h5]; exact p μ H _ .refl hs rfl⟩
  · exact .inr (inA W σ μ H st x y v u Q hs rx ry p)
theorem nin2A : OpA G ninD2 (fun x y H Q => rIn G.K true x y H Q ∨ rNotInD G.K x y H Q) := by
  intro W σ μ H st x y v u Q hs rx ry p
  unfold ninD2 at p
  split at p
  · rename_i b e
    obtain ⟨a, xs, h1, h2, h3, h4, h5⟩ := inT_ok rx ry e
    exact .inl ⟨a, xs, h1, h2, h3, h4, by rw [if_pos rfl, h5]; exact p μ H _ .refl hs rfl⟩
  · exact .inr (ninA W σ μ H st x y v u Q hs rx ry p)
end
section
variable {X : Cx} {W : WX} {a b : Expr} {fa fb : EF} {pos : Pos} {lv : Nat}
theorem ae_in2 (cx : Ctx X W lv) (ha : AE X W a fa) (hb : AE X W b fb) (hm : behindInMarks .In b = false := by with_unfolding_all rfl) : AE X W (.Compare a [.In] [b] pos) (e2 inD2 fa fb) := ae_cmp (OpR_or op_in_seq (op_inD (Room.units65 cx.room))) in2A ha hb hm
theorem ae_nin2 (cx : Ctx X W lv) (ha : AE X W a fa) (hb : AE X W b fb) (hm : behindInMarks .NotIn b = false := by with_unfolding_all rfl) : AE X W (.Compare a [.NotIn] [b] pos) (e2 ninD2 fa fb) := ae_cmp (OpR_or op_notIn_seq (op_notInD (Room.units65 cx.room))) nin2A ha hb hm
theorem at_in2 (cx : Ctx X W lv) (ha : AE X W a fa) (hb : AE X W b fb) (hm : behindInMarks .In b = false := by with_unfolding_all rfl) : AT X W (.Compare a [.In] [b] pos) (bB (e2 inD2 fa fb)) := at_cmp (OpR_or op_in_seq (op_inD (Room.units65 cx.room))) in2A ha hb hm
theorem at_nin2 (cx : Ctx X W lv) (ha : AE X W a fa) (hb : AE X W b fb) (hm : behindInMarks .NotIn b = false := by with_unfolding_all rfl) : AT X W (.Compare a [.NotIn] [b] pos) (bB (e2 ninD2 fa fb)) := at_cmp (OpR_or op_notIn_seq (op_notInD (Room.units65 cx.room))) nin2A ha hb hm
/-! ## is of flags -/
def isBD (x y : D) (st : Store) : R D := match x, y with
  | .bl i, .bl j => .ok (.bl (decide (i = j))) st
  | _, _ => .bad
def nisBD (x y : D) (st : Store) : R D := match x, y with
  | .bl i, .bl j => .ok (.bl (!decide (i = j))) st
  | _, _ => .bad
theorem isBA {G : GX} : OpA G isBD rIsB := by
  intro W σ μ H st x y v u Q hs rx ry p
  unfold isBD at p
  split at p
  · cases rx; cases ry; exact ⟨_, _, rfl, rfl, p μ H _ .refl hs rfl⟩
  · exact p.elim
theorem nisBA {G : GX} : OpA G nisBD rNotB := by
  intro W σ μ H st x y v u Q hs rx ry p
  unfold nisBD at p
  split at p
  · cases rx; cases ry; exact ⟨_, _, rfl, rfl, p μ H _ .refl hs rfl⟩
  · exact p.elim
theorem ae_isB (ha : AE X W a fa) (hb : AE X W b fb) (hm : behindInMarks .Is b = false := by with_unfolding_all rfl) : AE X W (.Compare a [.Is] [b] pos) (e2 isBD fa fb) := ae_cmp op_isBl isBA ha hb hm
theorem ae_nisB (ha : AE X W a fa) (hb : AE X W b fb) (hm : behindInMarks .IsNot b = false := by with_unfolding_all rfl) : AE X W (.Compare a [.IsNot] [b] pos) (e2 nisBD fa fb) := ae_cmp op_notBl nisBA ha hb hm
theorem at_isB (ha : AE X W a fa) (hb : AE X W b fb) (hm : behindInMarks .Is b = false := by with_unfolding_all rfl) : AT X W (.Compare a [.Is] [b] pos) (bB (e2 isBD fa fb)) := at_cmp op_isBl isBA ha hb hm
theorem at_nisB (ha : AE X W a fa) (hb : AE X W b fb) (hm : behindInMarks .IsNot b = false := by with_unfolding_all rfl) : AT X W (.Compare a [.IsNot] [b] pos) (bB (e2 nisBD fa fb)) := at_cmp op_notBl nisBA ha hb hm
end
/-! ## a, b = x, y -/
def sPar (i j : Nat) (fl : LF) : SF := fun env st => sOf (fl env st) env fun ds st1 => match ds with
  | [x, y] => .next ((env.set i (some x)).set j (some y)) st1
  | _ => .bad
section
variable {X : Cx} {W : WX} {a b e : Expr} {fl : LF} {fo fi fo' fi' fe : EF} {pos : Pos} {lv : Nat}
theorem as_par (c : Ctx X W lv) (i j : Nat) {x y : Str} {px py pt : Pos} {kt k2 pt2} (ha : AA X W [a, b] fl) (hi : X.N[i]? = some x := by rfl) (hj : X.N[j]? = some y := by rfl) (hij : i ≠ j := by decide)
    (hx : X.env.scope.names.lookup x = some .local := by rfl) (hy : X.env.scope.names.lookup y = some .local := by rfl)
    (hw : swappedStores [.Tuple [.Name x px, .Name y py] kt pt] (.Tuple [a, b] k2 pt2) X.env = pure (some [x, y]) := by rfl)
    (hs : swapsWithSole [.Tuple [.Name x px, .Name y py] kt pt] (.Tuple [a, b] k2 pt2) pos.line X.env = pure false := by rfl) :
    AS X W (.Assign [.Tuple [.Name x px, .Name y py] kt pt] (.Tuple [a, b] k2 pt2) pos) (sPar i j fl) :=
  (ps_par c.calm c.nd hi hj hij hx hy ha hw hs).weak fun Dn σ H ⟨μ, env, st, hs, er, p⟩ => ⟨μ, env, st, hs, er, PostS.bind p hs er fun ds st1 μ1 H1 vs _ x1 hs1 r1 p1 => by
    split at p1
    · obtain ⟨v, rest, rfl, rd, v2, rest2, rfl, rd2, e0⟩ := r1
      cases e0
      exact ⟨v, v2, rfl, p1 μ1 H1 _ .refl hs1 (((er.ext hs x1).set rd i).set rd2 j)⟩
    · exact p1.elim⟩
/-! ## o[i], p[j] = e -/
def sSub2 (fo fi fo' fi' fe : EF) : SF := fun env st => sOf (fe env st) env fun d st1 => match d with
  | .tup [y, y'] => sThen (sSub fo fi (eC y) env st1) (sSub fo' fi' (eC y'))
  | _ => .bad
theorem sThen_sOf {α : Type} (r : R α) (env : AEnv) (k : α → Store → RS) (g : SF) : sThen (sOf r env k) g = sOf r env fun x st => sThen (k x st) g := by cases r <;> rfl
theorem sThen_nil (r : RS) : sThen r sNil = r := by cases r <;> rfl
theorem gsub_then {G : GX} {μ : List Addr} {H : Hp} {st : Store} {env : AEnv} {σ : St} {g : SF} {y : D} {v : V} {Dn : Ends} {Q : St → Hp → Prop} (hs : HS G μ H st) (er : EnvR G μ H env σ) (ry : RelD G μ H y v)
    (p : PostS G W μ H (sThen (sSub fo fi (eC y) env st) g) Dn)
    (k : ∀ μ' H' st', Ext μ H μ' H' → HS G μ' H' st' → EnvR G μ' H' env σ → PostS G W μ' H' (g env st') Dn → Q σ H') :
    gSub (tG G W (relD G) fo) (tG G W (relD G) fi) (rSetL) v σ H Q := by
  have e0 : sSub fo fi (eC y) env st = sOf (fo env st) env fun x st2 => sOf (fi env st2) env fun i st3 => match x, i with
    | .ref n, .int k => (match st3[n]? with
      | some (.lst xs) => (match ixN xs.length k with
        | some j => .next env (st3.set n (.lst (xs.set j y)))
        | none => .bad)
      | _ => .bad)
    | _, _ => .bad := rfl
  rw [e0, sThen_sOf] at p
  refine ⟨μ, env, st, hs, er, PostS.bind p hs er fun x st2 μ2 H2 ov _ x2 hs2 r2 p2 => ?_⟩
  rw [sThen_sOf] at p2
  refine ⟨μ2, env, st2, hs2, er.ext hs x2, PostS.bind p2 hs2 (er.ext hs x2) fun i st3 μ3 H3 iv _ x3 hs3 r3 p3 => ?_⟩
  have r2 := RelD.ext hs2 x3 _ _ r2
  have r1 := RelD.ext hs (x2.trans x3) _ _ ry
  have er3 := (er.ext hs x2).ext hs2 x3
  split at p3
  · cases r3
    obtain ⟨a, e1, rfl⟩ := r2
    split at p3
    · rename_i xs e2
      obtain ⟨_, h1, us, rfl, ru⟩ := hs3.obj _ a _ e1 e2
      split at p3
      · rename_i j ej
        have hp := hs3.put (ao := .lst (xs.set j y)) e1 ⟨_, rfl, ru.set j r1⟩
        exact ⟨a, us, _, j, rfl, rfl, h1, by rw [ru.length]; exact ej, k μ3 _ _ ((x2.trans x3).trans (.put e1 h1)) hp (er3.wr (hs3.noTupAt e1)) (PostS.later p3 (.put e1 h1))⟩
      · exact p3.elim
    · exact p3.elim
  · exact p3.elim
theorem as_sub2 {o i o' i' : Expr} {apos apos' pt : Pos} {kt : Nat} (c : Ctx X W lv) (ho : AE X W o fo) (hi : AE X W i fi) (ho' : AE X W o' fo') (hi' : AE X W i' fi') (he : AE X W e fe)
    (ha : ∀ v, assign (.Subscript o i apos) X.env v = (do
      let ov ← holding [v] (eval o X.env)
      let iv ← holding [v, ov] (eval i X.env)
      standAt apos
      holding [v, ov, iv] (setItem ov iv v)
      release [v, ov, iv] []) := by intro _; rfl)
    (ha' : ∀ v, assign (.Subscript o' i' apos') X.env v = (do
      let ov ← holding [v] (eval o' X.env)
      let iv ← holding [v, ov] (eval i' X.env)
      standAt apos'
      holding [v, ov, iv] (setItem ov iv v)
      release [v, ov, iv] []) := by intro _; rfl)
    (n1 : (assignEach [.Subscript o i apos, .Subscript o' i' apos'] X.env).map (·.2) = assign (.Subscript o i apos) X.env :: (assignEach [.Subscript o' i' apos'] X.env).map (·.2) := by rfl)
    (n2 : (assignEach [.Subscript o' i' apos'] X.env).map (·.2) = assign (.Subscript o' i' apos') X.env :: (assignEach [] X.env).map (·.2) := by rfl)
    (hn : (assignEach [.Subscript o i apos, .Subscript o' i' apos'] X.env).length = 2 := by rfl) (hst : (assignEach [.Subscript o i apos, .Subscript o' i' apos'] X.env).findIdx? (·.1) = none := by rfl)
    (hs : swapsWithSole [.Tuple [.Subscript o i apos, .Subscript o' i' apos'] kt pt] e pos.line X.env = pure false := by rfl) (hw : swappedStores [.Tuple [.Subscript o i apos, .Subscript o' i' apos'] kt pt] e X.env = pure none := by rfl)
    (h1 : (assignEach [.Tuple [.Subscript o i apos, .Subscript o' i' apos'] kt pt] X.env).map (·.2) = [assign (.Tuple [.Subscript o i apos, .Subscript o' i' apos'] kt pt) X.env] := by rfl) :
    AS X W (.Assign [.Tuple [.Subscript o i apos, .Subscript o' i' apos'] kt pt] e pos) (sSub2 fo fi fo' fi' fe) :=
  (ps_asg he (pg_tup (n := 2) c.calm (pgs_cons (pg_sub ho hi set_list ha) (pgs_cons (pg_sub ho' hi' set_list ha') pgs_nil n2) n1) hn hst) hs hw h1).weak fun Dn σ H ⟨μ, env, st, hs, er, p⟩ =>
    ⟨μ, env, st, hs, er, PostS.bind p hs er fun d st1 μ1 H1 v _ x1 hs1 r1 p1 => by
      split at p1
      · obtain ⟨a, vs, rfl, q, v1, rest, rfl, rd1, v2, rest2, rfl, rd2, e0⟩ := r1
        cases e0
        refine ⟨a, _, rfl, .of q, rfl, v1, _, rfl, gsub_then hs1 (er.ext hs x1) rd1 p1 fun μ2 H2 st2 x2 hs2 er2 p2 => ⟨v2, _, rfl, ?_⟩⟩
        rw [← sThen_nil (sSub _ _ _ _ _)] at p2
        exact gsub_then hs2 er2 (RelD.ext hs1 x2 _ _ rd2) p2 fun μ3 H3 st3 x3 hs3 er3 p3 => ⟨rfl, p3 μ3 H3 σ .refl hs3 er3⟩
      · exact p1.elim⟩
/-! ## a list times an int -/
def lRep (fl : LF) (fe : EF) : LF := fun env st => (fl env st).bind fun xs st1 => (fe env st1).bind fun d st2 => match d with
  | .int k => if -1000000 ≤ k ∧ k ≤ 1000000 ∧ xs.length * k.toNat ≤ sizeLine then .ok (List.replicate k.toNat xs).flatten st2 else .bad
  | _ => .bad
theorem al_rep (ha : AL X W a fl) (hb : AE X W b fe) : AL X W (.BinOp a .Mult b pos) (lRep fl fe) := (pe_op op_rep ha hb).weak fun σ H Q ⟨μ, env, st, hs, er, p⟩ =>
  ⟨μ, env, st, hs, er, Post.bind0 p fun xs st1 μ1 H1 v _ x1 hs1 r1 p1 => ⟨μ1, env, st1, hs1, er.ext hs x1, by
    cases q : fe env st1 with
    | bad => rw [q] at p1; exact p1
    | exc x s => rw [q] at p1; exact (Post.later (rel := relL (gx X)) (r := .exc x s) (Q := Q) p1 x1)
    | ok d st2 =>
      rw [q, R.bind_ok] at p1
      intro μ2 H2 u x2 hs2 r2
      obtain ⟨a, vs, rfl, h0, hn, ha, rv⟩ := r1
      split at p1
      · rename_i k
        cases r2
        split at p1
        · rename_i hz
          have h63 : (2 : Int) ^ 63 = 9223372036854775808 := by decide
          refine ⟨a, k, vs, rfl, rfl, x2.lst hn ha, by rw [h63]; omega, by rw [h63]; omega, by rw [rv.length]; exact hz.2.2, fun l hl => p1 μ2 _ _ ((x1.trans x2).trans (.new hl)) (hs2.new hl)
            ⟨l, _, rfl, Ext.back (x1.trans x2) .refl (hs2.fresh hl) hl, hs2.fresh hl, upd_same, RelDs.ext hs2 (.new hl) _ _ ((RelDs.ext hs1 x2 _ _ rv).rep _)⟩⟩
        · exact p1.elim
      · exact p1.elim⟩⟩
/-! ## list(range(i, j)) -/
noncomputable def lRng2 (fe fe' : EF) : LF := fun env st => (fe env st).bind fun d st1 => (fe' env st1).bind fun d' st2 => match d, d' with
  | .int i, .int j => hid (if rgOk i j then .ok (rangeD i (j - i).toNat) st2 else .bad)
  | _, _ => .bad
theorem al_listRng2 {a b : Expr} {fe fe' : EF} {p p2 pos2 : Pos} (cx : Ctx X W lv) (hm : X.mg "list" = none) (hm2 : X.mg "range" = none) (ha : AE X W a fe) (hb : AE X W b fe') (hg : Gl X "list" := by rfl) (hg2 : Gl X "range" := by rfl) (na : starEach [a, b] X.env = (false, eval a X.env) :: starEach [b] X.env := by rfl) (nb : starEach [b] X.env = (false, eval b X.env) :: starEach [] X.env := by rfl) (hp : (backTo pos2 (starEach [b] X.env)).any (·.1) = false := by rfl)
    (na2 : starEach [.Call (.Name "range" p2) [a, b] [] pos2] X.env = (false, eval (.Call (.Name "range" p2) [a, b] [] pos2) X.env) :: starEach [] X.env := by rfl) :
    AL X W (.Call (.Name "list" p) [.Call (.Name "range" p2) [a, b] [] pos2] [] pos) (lRng2 fe fe') := (pe_listRg cx.calm hg hm (prg_2 hg2 hm2 ha hb na nb hp) na2).weak fun σ H Q ⟨μ, env, st, hs, er, q⟩ =>
    ⟨μ, env, st, hs, er, Post.bind0 q fun d st1 μ1 H1 v _ x1 hs1 r1 p1 => ⟨μ1, env, st1, hs1, er.ext hs x1, by
      cases q : fe' env st1 with
      | bad => rw [q] at p1; exact p1
      | exc x s => rw [q] at p1; exact (Post.later (rel := relL (gx X)) (r := .exc x s) (Q := Q) p1 x1)
      | ok d' st2 =>
        rw [q, R.bind_ok] at p1
        intro μ2 H2 u x2 hs2 r2
        have r1 := RelD.ext hs1 x2 _ _ r1
        split at p1
        · cases r1; cases r2
          simp only [hid_eq] at p1
          split at p1
          · rename_i h
            exact ⟨_, _, rfl, rfl, h, fun l hl => p1 μ2 _ _ ((x1.trans x2).trans (.new hl)) (hs2.new hl) ⟨l, _, rfl, Ext.back (x1.trans x2) .refl (hs2.fresh hl) hl, hs2.fresh hl, upd_same, rgRel _ _⟩⟩
          · exact p1.elim
        · exact p1.elim⟩⟩
/-! ## name op= int -/
def sAug (i : Nat) (g : Int → Int → Int) (ok : Int → Int → Prop) [∀ x y, Decidable (ok x y)] (fe : EF) : SF := fun env st => match env[i]? with
  | some (some (.int x)) => sOf (fe env st) env fun d st1 => match d with
    | .int y => if ok x y then .next (env.set i (some (.int (g x y)))) st1 else .bad
    | _ => .bad
  | _ => .bad
theorem as_augI {op : Operator} {g : Int → Int → Int} {ok : Int → Int → Prop} [∀ x y, Decidable (ok x y)] {ti : TIp} (c : Ctx X W lv) (i : Nat) {x : Str} {pos' : Pos} (he : AE X W e fe) (hp : PIp X op ti) (ht : ∀ x y H Q, ok x y → Q (.int (g x y)) H → ti (.int x) (.int y) H Q)
    (hi : X.N[i]? = some x := by rfl) (hx : Loc X.env.scope x := by first | exact Or.inl rfl | exact Or.inr rfl) (hf : X.fn x = true ∨ X.env.scope.names.lookup x = some .local := by first | exact .inl rfl | exact .inr rfl) :
    AS X W (.AugAssign (.Name x pos') op e pos) (sAug i g ok fe) := (ps_aug c.nd hi hx he hp hf).weak fun Dn σ H ⟨μ, env, st, hs, er, p⟩ => by
  unfold sAug at p
  split at p
  · rename_i z ez
    obtain ⟨v, e1, rd⟩ := er.2 i _ ez
    cases rd
    refine ⟨_, e1, μ, env, st, hs, er, PostS.bind p hs er fun d st1 μ1 H1 u _ x1 hs1 r1 p1 => ?_⟩
    split at p1
    · cases r1
      split at p1
      · rename_i hz
        exact ht _ _ _ _ hz (p1 μ1 H1 _ .refl hs1 ((er.ext hs x1).set (d := .int _) (v := .int _) rfl i))
      · exact p1.elim
    · exact p1.elim
  · exact p.elim
theorem as_augAdd (c : Ctx X W lv) (i : Nat) {x : Str} {pos' : Pos} (he : AE X W e fe) (hi : X.N[i]? = some x := by rfl) (hx : Loc X.env.scope x := by first | exact Or.inl rfl | exact Or.inr rfl) (hf : X.fn x = true ∨ X.env.scope.names.lookup x = some .local := by first | exact .inl rfl | exact .inr rfl) :
    AS X W (.AugAssign (.Name x pos') .Add e pos) (sAug i (· + ·) (fun _ _ => True) fe) := as_augI c i he ip_add (fun x y H Q _ q => ⟨x, y, rfl, rfl, q⟩) hi hx hf
end
end TK

set_option Elab.async false
set_option linter.all false
set_option maxRecDepth 100000
set_option maxHeartbeats 4000000
namespace TK
open PySem PySem.Spec
open PyProof.Rows hiding St
open L2
/-! # sorted of a tuple of ints -/
section
variable {prog : Program} {w : World} {A : Around} {s : Shared} {E : Value → Shared → Prop}
abbrev gathH (h : Heap) (us : List Value) : Heap := (h.push (seqObj "list" #[] 0)).update h.objs.size (Obj.mapSeq (· ++ us.toArray))
theorem gath_size (h : Heap) (us : List Value) : (gathH h us).objs.size = h.objs.size + 1 := by rw [gathH, Heap.size_update, size_push']
theorem gath_tup {t : Addr} {us : List Value} {Q : List Value → Shared → Prop} (ht : IsTup s.heap t us.toArray) (hz : us.length ≤ sizeLine) (h : Q us { s with heap := gathH s.heap us }) : wpAny (model prog w) A (collect (.ref t)) Q E s := by
  obtain ⟨ob, hob, hcl, m, hda⟩ := ht
  have hnew : (s.heap.push (seqObj "list" #[] 0)).get? s.heap.objs.size = some (seqObj "list" #[] 0) := Heap.get?_push_size _ rfl
  have hold : (s.heap.push (seqObj "list" #[] 0)).get? t = some ob := Heap.get?_push_of_some _ hob
  have htt : (Value.type "tuple" == Value.type "tuple") = true := by rfl
  unfold collect
  refine wpAny_bind (wpAny_runValue (codeAny_builtin entry_proto_collect' (?_ : wpAny _ _ (do again (.builtin "list.__iadd__" ⟨[← newList [], .ref t], []⟩)) _ _ s)))
  refine wpAny_bind (wpAny_newList (wpAny_pure ⟨Code.quiet_builtin _ (by decide +kernel), codeAny_builtin entry_list_iadd' (?_ : wpAny _ _ (Builtin.List.listExtendWith (.ref s.heap.objs.size) (.ref t) (.ref s.heap.objs.size)) _ _ { s with heap := s.heap.push (seqObj "list" #[] 0) })⟩))
  unfold Builtin.List.listExtendWith
  refine wpAny_bind (wpAny_typeOf (T := "tuple") ⟨ob, hold, hcl⟩ ?_)
  rw [if_pos (show _ = true by rw [htt]; simp)]
  refine wpAny_bind (listItems_at hold hda (wpAny_bind (listItems_at (xs := #[]) (n := 0) hnew rfl ?_)))
  rw [if_neg (show ¬ _ from by simp)]
  have hfit : (#[] ++ us.toArray).size ≤ sizeLine + 1 := by simp only [Array.size_append, List.size_toArray, List.length_nil]; omega
  refine wpAny_bind (listUpdate_at (xs := #[]) (n := 0) hnew rfl (wpAny_pure ?_) (Nat.zero_le _) hfit)
  have fin : wpAny (model prog w) A (do
      let o ← load s.heap.objs.size
      match o.data with
      | .seq xs _ => pure xs.toList
      | _ => unsupported "internal:collect") Q E { s with heap := gathH s.heap us } := by
    refine wpAny_bind (wpAny_load (get?_update_seq hnew _) (?_ : wpAny _ _ (pure ((#[] : Array Value) ++ us.toArray).toList) Q E _))
    rw [show ((#[] : Array Value) ++ us.toArray).toList = us from by simp]
    exact wpAny_pure h
  exact fin
theorem sorted_tup {t : Addr} {us : List Value} {lt : Value → Value → Bool} {Q : Value → Shared → Prop} (O : SrtO.Swo lt) (ht : IsTup s.heap t us.toArray) (hz : us.length ≤ sizeLine)
    (hS : 2 ≤ us.length → ∀ (g : Heap) (c : Addr), g.get? c = some (seqObj "list" us.toArray 0) → (∀ b o, s.heap.get? b = some o → b ≠ c ∧ g.get? b = some o) → SrtO.SortableO prog w A.in1.in1 { s with heap := g } c us lt)
    (h : ∀ out : List Value, SrtO.Srtd lt out → SrtO.Stb lt out us → Q (.ref (s.heap.objs.size + 1)) { s with heap := sortedAll s.heap us out.toArray }) : wpAny (model prog w) A (call (.builtin "sorted") [.ref t]) Q E s := by
  have hat : ((gathH s.heap us).push (seqObj "list" us.toArray 0)).get? (s.heap.objs.size + 1) = some (seqObj "list" us.toArray 0) := by
    rw [← gath_size s.heap us]; exact Heap.get?_push_size _ rfl
  have hkp : ∀ b o, s.heap.get? b = some o → b ≠ s.heap.objs.size + 1 ∧ ((gathH s.heap us).push (seqObj "list" us.toArray 0)).get? b = some o := fun b o e => by
    have hb : b < s.heap.objs.size := Heap.lt_size e
    exact ⟨Nat.ne_of_lt (Nat.lt_succ_of_lt hb), Heap.get?_push_of_some _ ((Heap.get?_update_ne _ _ _ _ (Nat.ne_of_lt hb)).trans (Heap.get?_push_of_some _ e))⟩
  refine Calls.call_function_entry kind_sorted plain_sorted entry_sorted (args_sorted1 _) ?_
  unfold Builtin.«sorted»
  refine wpAny_bind (m := checkCount "sorted" 1 1 _) (wpAny_pure (wpAny_bind (gath_tup ht hz (wpAny_bind (wpAny_newList (?_ : wpAny _ _ _ _ _ { s with heap := (gathH s.heap us).push (seqObj "list" us.toArray 0) }) hz)))))
  rw [gath_size]
  exact wpAny_bind (wpAny_holding (wpAny_call_entry slot_list_sort ⟨_, hat, rfl⟩ entry_list_sort (SrtO.list_sort_ord O hat hz (fun h2 => hS h2 _ _ hat hkp) fun out h1 h2 => ⟨_, rfl, wpAny_pure ⟨_, rfl, h out h1 h2⟩⟩) (args_list_sort _)))
end
def rSortedTp (K : PySem.W.Frag) : List V → Hp → VK → Prop := fun vs H Q => ∃ (a : Addr) (ns : List Int), vs = [V.ref a] ∧ (SqL K H a (ns.map V.int) ∨ SqT K H a (ns.map V.int)) ∧
  ∀ (ns' : List Int) (p : Addr), ns'.Perm ns → ns'.Pairwise (· ≤ ·) → H p = none → Q (.ref p) (upd H p (.lst (ns'.map V.int)))
theorem cr_sortedTp {X : Cx} : CallR X (.builtin "sorted") (rSortedTp X.K) := by
  intro pins s σ H vs us Q I r h
  obtain ⟨a, ns, e, hs, q⟩ := h
  rcases hs with hs | hs
  · exact cr_sortedI pins s σ H vs us Q I r ⟨a, ns, e, hs, q⟩
  · subst e
    obtain ⟨its, rv, ht, hz⟩ := I.tuple hs
    rw [Vals.ref1 r]
    have hi := rv.ints
    refine sorted_tup SrtO.swo_int ht (by rw [← rv.length]; exact hz) (fun h2 _ _ _ _ => SrtO.ints_sortable hi h2) fun out h1 h2 => ?_
    obtain ⟨k1, k2, k3⟩ := SrtO.ints_out hi h1 h2
    obtain ⟨ep, he⟩ := PyProof.Rows.sortedAll_at s.heap its out.toArray
    have hl : ((out.map SrtO.iv).map V.int).length ≤ sizeLine := by rw [List.length_map, k2.length_eq]; simpa using hz
    exact ⟨.ref _, upd H (s.heap.objs.size + 1) (.lst ((out.map SrtO.iv).map V.int)), I.laid (t' := s.toks) (fun _ _ => PyProof.Rows.sortedAll_old) (Nat.le_succ _) ⟨hl, out, ep, vals_of_ints k1, he⟩, rfl, q _ _ k2 k3 (I.hok.fresh (Nat.le_succ _))⟩
section
variable {X : Cx} {W : WX} {e : Expr} {fl : LF} {pos : Pos}
theorem sortTpQ {G : GX} : CalQ G (relQ G) (relL G) sortG (rSortedTp G.K) := by
  intro W σ μ0 H0 μ H st ds v Q x hs r p
  obtain ⟨a, vs, rfl, q, rs⟩ := r
  unfold sortG at p
  split at p
  · rename_i ns e
    have hv := intsOf_ok rs e
    refine ⟨a, ns, rfl, by rw [← hv]; exact q.imp id .of, fun ns' l pm so hl => ?_⟩
    have : ns' = sortI ns := sorted_eq (pm.trans (sortI_perm ns).symm) so (sortI_sorted ns)
    subst this
    exact p μ _ _ (x.trans (.new hl)) (hs.new hl) ⟨l, _, rfl, Ext.back x .refl (hs.fresh hl) hl, hs.fresh hl, upd_same, intsRel _⟩
  · exact p.elim
theorem al_sortedT {p : Pos} (hm : X.mg "sorted" = none) (ha : AQ X W e fl) (hg : Gl X "sorted" := by rfl) (he : starEach [e] X.env = (false, eval e X.env) :: starEach [] X.env := by rfl) : AL X W (.Call (.Name "sorted" p) [e] [] pos) (lQ sortG fl) :=
  p_callB cr_sortedTp sortTpQ hm (by decide +kernel) ha hg (he := he)
end
end TK

set_option Elab.async false
set_option linter.all false
set_option maxRecDepth 100000
set_option maxHeartbeats 4000000
namespace TK
open PySem PySem.Spec
open PyProof.Rows hiding St
open L2
/-! # xs[-2::-1] of a list -/
theorem pick_rev2 (its : Array Value) (hn : 1 ≤ its.size) : slicePick its (some (-2)) none (some (-1)) = (its.toList.take (its.size - 1)).reverse.toArray := by
  obtain ⟨m, hm⟩ : ∃ m, its.size = m + 1 := ⟨its.size - 1, by omega⟩
  have hb : sliceBounds (some (-2)) none (some (-1)) (m + 1) = ((m : Int) - 1, -1, -1) := by
    show (max (-1) (min ((-2 : Int) + ((m + 1 : Nat) : Int)) (((m + 1 : Nat) : Int) - 1)), _, _) = _
    have : max (-1 : Int) (min ((-2 : Int) + ((m + 1 : Nat) : Int)) (((m + 1 : Nat) : Int) - 1)) = (m : Int) - 1 := by omega
    rw [this]
    rfl
  have hp := pick_run its 0 m
  have e0 : (List.range m).map (0 + ·) = List.range m := by
    rw [show ((0 + ·) : Nat → Nat) = id from funext fun j => Nat.zero_add j, List.map_id]
  rw [e0, List.drop_zero] at hp
  unfold slicePick
  rw [hm, hb]
  simp only
  rw [PySem.W.krv_sliceRange, PySem.W.krv_range, List.filterMap_reverse, hp]
  rfl
def tRev2 (K : PySem.W.Frag) (te : TE) : TE := fun σ H Q => te σ H fun x H1 => ∃ a xs, x = .ref a ∧ SqL K H1 a xs ∧ 1 ≤ xs.length ∧ ∀ p, H1 p = none → Q (.ref p) (upd H1 p (.lst (xs.take (xs.length - 1)).reverse))
theorem pe_rev2 {X : Cx} {e : Expr} {te : TE} {k k2 : Nat} {p1 p2 p3 p4 p5 pos : Pos} (he : PE X e te) :
    PE X (.Subscript e (.Slice (some (.UnaryOp .USub (.Constant (.int 2) k p1) p2)) none (some (.UnaryOp .USub (.Constant (.int 1) k2 p3) p4)) p5) pos) (tRev2 X.K te) := by
  refine ⟨fun pins s σ H Q I h => ?_⟩
  have cut : ∀ (i : Int) (k : Nat) (p p' : Pos), PO X (some (.UnaryOp .USub (.Constant (.int i) k p) p')) (tPart (tUn (rU fun i => .int (-i)) (tC (.int i)))) := fun i k p p' => po_some (pe_un un_neg pe_int)
  refine Subscript_ (thn (he.run pins s σ H _ I h) fun v s1 ⟨x, H1, J1, r1, a, xs, ex, hx, hn, q⟩ => ?_)
  subst ex
  cases r1
  refine wpAny_Slice (thn ((cut 2 k p1 p2).run pins s1 σ H1 (fun o G => o = some (-2) ∧ G = H1) J1 ⟨2, rfl, -2, rfl, rfl, rfl⟩) fun vl s2 ⟨l, H2, J2, pl, el, e2⟩ => ?_)
  subst el e2
  refine thn (po_none.run pins s2 σ H2 (fun o G => o = none ∧ G = H2) J2 ⟨rfl, rfl⟩) fun vu s3 ⟨u, H3, J3, pu, eu, e3⟩ => ?_
  subst eu e3
  refine thn ((cut 1 k2 p3 p4).run pins s3 σ H3 (fun o G => o = some (-1) ∧ G = H3) J3 ⟨1, rfl, -1, rfl, rfl, rfl⟩) fun vs s4 ⟨o, H4, J4, ps, eo, e4⟩ => ?_
  subst eo e4
  have J5 : Inv X pins σ H4 { s4 with heap := s4.heap.push { cls := .type "slice", data := .fields #[vl, vu, vs] } } := J4.kept (t' := s4.toks) fun b ob w => Heap.get?_push_of_some _ w
  obtain ⟨its, rv, hl, hz⟩ := J5.list hx
  have hlen := rv.length
  refine (?_ : wpAny (model X.prog X.w) X.A (subscriptTail e (.Slice (some (.UnaryOp .USub (.Constant (.int 2) k p1) p2)) none (some (.UnaryOp .USub (.Constant (.int 1) k2 p3) p4)) p5) (.ref a) (.ref s4.heap.objs.size)) (EP X pins σ Q) X.xe { s4 with heap := s4.heap.push { cls := .type "slice", data := .fields #[vl, vu, vs] } })
  refine tail_any (ops := [.ref a, .ref s4.heap.objs.size]) hl.isList.typeIs (PySem.slot_list_getitem.lookup) (wpAny_getItem_list_slice hl.isList (Heap.IsSliceOf.new _ vl vu vs) pl pu ps (by decide) ?_ (by rw [List.size_toArray]; omega)) (by with_unfolding_all rfl)
  have ek : its.toArray.toList.take (its.toArray.size - 1) = its.take (xs.length - 1) := by rw [hlen]; simp
  rw [pick_rev2 _ (by rw [List.size_toArray]; omega), ek]
  exact ⟨.ref _, _, J5.laid (t' := s4.toks) (o := .lst (xs.take (xs.length - 1)).reverse) (fun b ob w => Heap.get?_push_of_some _ w) (Nat.le_refl _) ⟨by rw [List.length_reverse, List.length_take]; omega, _, 0, (rv.take _).reverse, Heap.get?_push_size _ rfl⟩, rfl, q _ (J5.hok.fresh (Nat.le_refl _))⟩
def lRev2 (fe : EF) : LF := fun env st => (fe env st).bind fun x st1 => match x with
  | .ref n => (match seqOf (.ref n) st1 with
    | some ds => if 1 ≤ ds.length then .ok (ds.take (ds.length - 1)).reverse st1 else .bad
    | none => .bad)
  | _ => .bad
theorem RelDs.reverse {G : GX} {μ : List Addr} {H : Hp} : ∀ {ds : List D} {vs : List V}, RelDs G μ H ds vs → RelDs G μ H ds.reverse vs.reverse
  | [], _, r => by cases r; rfl
  | d :: ds, _, r => by
    obtain ⟨v, rest, rfl, rd, rs⟩ := r
    rw [List.reverse_cons, List.reverse_cons]
    exact (RelDs.reverse rs).append ⟨v, [], rfl, rd, rfl⟩
theorem al_rev2 {X : Cx} {W : WX} {e : Expr} {fe : EF} {k k2 : Nat} {p1 p2 p3 p4 p5 pos : Pos} (he : AE X W e fe) :
    AL X W (.Subscript e (.Slice (some (.UnaryOp .USub (.Constant (.int 2) k p1) p2)) none (some (.UnaryOp .USub (.Constant (.int 1) k2 p3) p4)) p5) pos) (lRev2 fe) := (pe_rev2 he).weak fun σ H Q ⟨μ, env, st, hs, er, p⟩ =>
  ⟨μ, env, st, hs, er, Post.bind0 p fun x st1 μ1 H1 v _ x1 hs1 r1 p1 => by
    split at p1
    · rename_i n
      obtain ⟨a, e1, rfl⟩ := r1
      split at p1
      · rename_i ds e2
        obtain ⟨vs, hq, rs⟩ := hs1.seq e1 e2
        split at p1
        · rename_i hn
          refine ⟨a, vs, rfl, hq, by rw [rs.length]; exact hn, fun p hp => p1 μ1 _ _ (x1.trans (.new hp)) (hs1.new hp) ⟨p, _, rfl, Ext.back x1 .refl (hs1.fresh hp) hp, hs1.fresh hp, upd_same, RelDs.ext hs1 (.new hp) _ _ ?_⟩⟩
          have := (rs.take (ds.length - 1)).reverse
          rw [rs.length]
          exact this
        · exact p1.elim
      · exact p1.elim
    · exact p1.elim⟩
@[simp] theorem lRev2_ap0 (fe : EF) (env : AEnv) (st : Store) : lRev2 fe env st = ((fe env st).bind fun x st1 => match x with
  | .ref n => (match seqOf (.ref n) st1 with
    | some ds => if 1 ≤ ds.length then .ok (ds.take (ds.length - 1)).reverse st1 else .bad
    | none => .bad)
  | _ => .bad) := (Eq.refl _).trans rfl
end TK

set_option Elab.async false
set_option linter.all false
set_option maxRecDepth 100000
set_option maxHeartbeats 4000000
namespace TK
open PySem PySem.Spec
open PyProof.Rows hiding St
open L2
/-! # instances: isinstance of the own class, == by an own method -/
/-- two instances of the class at C, compared by its own def -/
def rOwn (C : Addr) (sp : Sp) : R2 := fun x y H Q => ∃ a b dx dy fs gs, x = .ref a ∧ y = .ref b ∧ H a = some (.ins C dx fs) ∧ H b = some (.ins C dy gs) ∧ sp [.ref a, .ref b] H (fun v G => ∃ t : Bool, v = .bl t ∧ Q v G) (fun _ _ _ => False)
theorem op_own {X : Cx} {CX : CXT} {C f : Addr} {fd : FuncData} {ps : List Str} {n : Nat} {sp : Sp} (F : FnOk X.prog X.w X.K X.mg X.base CX n f fd ps sp) (hr : Room n X.A)
    (he : PySem.W.findIn X.K (.ref C) "__eq__" = some (some (.ref f))) (hi : PySem.W.isFn X.K (.ref f) = true) (hb : Binds X.K fd ps []) (hx : Passes CX X (fun _ _ _ => False)) : OpR X (compareOp .Eq) (rOwn C sp) := by
  intro pins s σ H x y v u Q I rx ry ⟨a, b, dx, dy, fs, gs, ex, ey, ha, hb2, hsp⟩
  subst ex; subst ey
  cases rx; cases ry
  obtain ⟨_, K1, _⟩ := ins_get I.hok ha
  obtain ⟨_, K2, _⟩ := ins_get I.hok hb2
  obtain ⟨_, K1, _⟩ := K1.look
  obtain ⟨_, K2, _⟩ := K2.look
  obtain ⟨_, fr⟩ := I.fr
  refine (?_ : wpAny (model X.prog X.w) X.A (richCompare .Eq (.ref a) (.ref b)) (EP X pins σ Q) X.xe s)
  refine PySem.W.cmp_K (tb := .ref C) (op := .Eq) hr.units0 fr I.ok.mod.kin K1 K2.type (by simp [PySem.W.notFirst]) he hi ?_
  have lens : 2 = ps.length := F.len _ _ _ _ hsp
  have rels : Vals [V.ref a, V.ref b] [Value.ref a, Value.ref b] := .cons rfl (.cons rfl .nil)
  have bnd := hb s [.ref a, .ref b] I.kIn (by simpa using lens)
  refine wpAny_call (codeAny_mono (F.run X.A X.stack s H ⟨[.ref a, .ref b], []⟩ _ _ _ _ hr I.env0 (by simpa using bnd) rels hsp) fun r t hq => ?_)
  match r, hq with
  | .error e, hq => exact hx pins σ H s e t I hq
  | .ok (.ret w), hq =>
    obtain ⟨z, G, J, rz, k, ez, q⟩ := I.after hq
    subst ez
    cases rz
    exact ⟨.bl k, G, J, rfl, q⟩
  | .ok .next, hq => exact False.elim hq
  | .ok .brk, hq => exact False.elim hq
  | .ok .cont, hq => exact False.elim hq
/-- the own == of a class of the text -/
structure EqA (G : GX) (P : Program) (w : World) (base : Heap) (k : Nat) (x : Str) (m : List D → Store → R D) : Prop where
  ex : ∃ C f fd ps, FnOk P w G.K G.mg base (L2.CX P w) k f fd ps (spA G m 2) ∧ G.mg x = some (.ref C) ∧ PySem.W.findIn G.K (.ref C) "__eq__" = some (some (.ref f)) ∧ PySem.W.isFn G.K (.ref f) = true ∧ Binds G.K fd ps []
def blR (r : R D) : R D := match r with
  | .ok (.bl b) st => .ok (.bl b) st
  | _ => .bad
noncomputable def eqI (c : Str) (m : List D → Store → R D) (x y : D) (st : Store) : R D := match x, y with
  | .ref n, .ref j => (match st[n]?, st[j]? with
    | some (.ins c1 _), some (.ins c2 _) => if c1 = c ∧ c2 = c then blR (gcR st (m [.ref n, .ref j] st)) else .bad
    | _, _ => eqD (.ref n) (.ref j) st)
  | x, y => eqD x y st
theorem eqIA {G : GX} {c : Str} {m : List D → Store → R D} {C : Addr} (hC : G.mg c = some (.ref C)) : OpA G (eqI c m) (fun x y H Q => rOwn C (spA G m 2) x y H Q ∨ rEqD G.K x y H Q) := by
  intro W σ μ H st x y v u Q hs rx ry p
  unfold eqI at p
  split at p
  · rename_i n j
    split at p
    · rename_i c1 f1 c2 f2 e1 e2
      split at p
      · rename_i hc
        obtain ⟨rfl, rfl⟩ := hc
        obtain ⟨a, ea, rfl⟩ := rx
        obtain ⟨b, eb, rfl⟩ := ry
        obtain ⟨_, h1, C1, dx, vs, rfl, m1, _⟩ := hs.obj n a _ ea e1
        obtain ⟨_, h2, C2, dy, us, rfl, m2, _⟩ := hs.obj j b _ eb e2
        rw [hC] at m1 m2
        cases m1; cases m2
        refine .inl ⟨a, b, dx, dy, vs, us, rfl, rfl, h1, h2, μ, st, [.ref n, .ref j], hs, ⟨_, _, rfl, ⟨a, ea, rfl⟩, _, _, rfl, ⟨b, eb, rfl⟩, rfl⟩, ?_, rfl⟩
        refine Post.gc hs ?_
        revert p
        cases gcR st (m [.ref n, .ref j] st) with
        | ok d st' =>
          intro p
          cases d with
          | bl k => exact fun μ' H' z e hs' r => ⟨k, r, p μ' H' z e hs' r⟩
          | _ => exact p.elim
        | exc x' st' => intro p; exact p.elim
        | bad => intro p; exact p.elim
      · exact p.elim
    · exact .inr (eqA W σ μ H st _ _ v u Q hs rx ry p)
  · exact .inr (eqA W σ μ H st _ _ v u Q hs rx ry p)
section
variable {X : Cx} {W : WX} {a b e : Expr} {fa fb fe : EF} {pos : Pos} {lv k : Nat}
theorem ae_eqI {c : Str} {m : List D → Store → R D} (F : EqA (gx X) X.prog X.w X.base k c m) (cx : Ctx X W lv) (ha : AE X W a fa) (hb : AE X W b fb) (hk : k ≤ lv := by decide) : AE X W (.Compare a [.Eq] [b] pos) (e2 (eqI c m) fa fb) := by
  obtain ⟨C, f, fd, ps, F, hC, h1, h2, h3⟩ := F.ex
  exact ae_cmp (OpR_or (op_own F (cx.room.mono hk) h1 h2 h3 (fun pins σ H s e s' I z => by obtain ⟨_, _, _, _, _, _, _, _, _, _, _, _, z⟩ := z; exact z.elim)) (op_eqD cx.room.units)) (eqIA hC) ha hb (nomark _)
theorem at_eqI {c : Str} {m : List D → Store → R D} (F : EqA (gx X) X.prog X.w X.base k c m) (cx : Ctx X W lv) (ha : AE X W a fa) (hb : AE X W b fb) (hk : k ≤ lv := by decide) : AT X W (.Compare a [.Eq] [b] pos) (bB (e2 (eqI c m) fa fb)) := by
  obtain ⟨C, f, fd, ps, F, hC, h1, h2, h3⟩ := F.ex
  exact at_cmp (OpR_or (op_own F (cx.room.mono hk) h1 h2 h3 (fun pins σ H s e s' I z => by obtain ⟨_, _, _, _, _, _, _, _, _, _, _, _, z⟩ := z; exact z.elim)) (op_eqD cx.room.units)) (eqIA hC) ha hb (nomark _)
/-- what isinstance asks of a class of the text -/
structure InsF (G : GX) (c : Str) : Prop where
  ex : ∃ C, G.mg c = some (.ref C) ∧ Cls G.K C ∧ PySem.W.findIn G.K (.ref C) "__class__" = some (some (.builtin "object.__class__")) ∧ PySem.W.specialIn G.K (.builtin "object.__class__") "__get__" = some (some (.builtin "getset_descriptor.__get__")) ∧
    PySem.W.takesIn G.K (.builtin "object.__class__") = some true ∧ PySem.W.mroIn G.K C (.type "object") = some true ∧ PySem.W.kitOne G.K (.ref C) (.ref C) = some true
def eIsC (c : Str) (fe : EF) : EF := fun env st => (fe env st).bind fun d st1 => match d with
  | .ref n => (match st1[n]? with
    | some (.ins c1 _) => if c1 = c then .ok (.bl true) st1 else .bad
    | _ => .bad)
  | _ => .bad
theorem ae_isC {p p2 : Pos} {c : Str} (J : InsF (gx X) c) (hm : X.mg "isinstance" = none) (ha : AE X W e fe) (hg : Gl X "isinstance" := by rfl) (hx : Gl X c := by rfl) (hd : (c == ("__debug__" : Str)) = false := by decide)
    (he : starEach [e, .Name c p2] X.env = (false, eval e X.env) :: starEach [.Name c p2] X.env := by rfl) (he2 : starEach [.Name c p2] X.env = (false, eval (.Name c p2) X.env) :: starEach [] X.env := by rfl) (hpl : (backTo pos (starEach [.Name c p2] X.env)).any (·.1) = false := by rfl) :
    AE X W (.Call (.Name "isinstance" p) [e, .Name c p2] [] pos) (eIsC c fe) := by
  obtain ⟨C, hC, k1, k2, k3, k4, k5, k6⟩ := J.ex
  exact (pe_callB call_isi hg hm (by decide +kernel) (pa_cons ha (pa_cons (pe_glob (v := .ref C) hx hC (by rfl) hd) pa_nil he2) he) (he := he) (hpl := hpl)).weak fun σ H Q ⟨μ, env, st, hs, er, q⟩ =>
    ⟨μ, env, st, hs, er, Post.bind q fun d st1 μ1 H1 v _ x1 hs1 r1 p1 => by
      split at p1
      · obtain ⟨a, ea, rfl⟩ := r1
        split at p1
        · rename_i c1 f1 e1
          split at p1
          · rename_i hc
            subst hc
            obtain ⟨_, h1, C1, dx, vs, rfl, m1, _⟩ := hs1.obj _ a _ ea e1
            have hC' : (gx X).mg c1 = some (.ref C) := hC
            rw [hC'] at m1
            cases m1
            exact ⟨.ref a, .ref C, .ref C, .ref C, true, rfl, .own C, .base (.ins h1 k1 k2 k3 k4 k5), k6, p1 μ1 H1 _ .refl hs1 rfl⟩
          · exact p1.elim
        · exact p1.elim
      · exact p1.elim⟩
end
/-- the def __eq__ of a class of the text -/
def EqF (G : GX) (x qual : Str) (st : Stmt) : Prop := ∃ C f fd, G.mg x = some (.ref C) ∧ PySem.W.findIn G.K (.ref C) "__eq__" = some (some (.ref f)) ∧ PySem.W.isFn G.K (.ref f) = true ∧ Fun G.K "__eq__" qual st f fd
section
variable {G : GX} {P : Program} {w : World} {base : Heap}
theorem EqA.of {x qual : Str} {st : Stmt} {N ps : List Str} {k : Nat} {body : SF} (T : EqF G x qual st) (S : FnScope N ps (defScope st)) (hp : ps.length = 2) (hb : ∀ f fd, Fun G.K "__eq__" qual st f fd → Binds G.K fd ps [])
    (h : ∀ (f : Addr) (cdv : Value) (A : Around) (outer : List Env) (s : Shared) (H : Hp) (E : XK),
      Ctx (cxOf (L2.CX P w) P w G.K G.mg base N qual (defScope st) f cdv A outer s H E) (fun C od _ H' => E C od H') k → ASs (cxOf (L2.CX P w) P w G.K G.mg base N qual (defScope st) f cdv A outer s H E) (fun C od _ H' => E C od H') (defBody st) body) :
    EqA G P w base (k + 1) x (runDef N.length body) := by
  obtain ⟨C, f, fd, hm, M1, M2, F⟩ := T
  have := FnOk.ofA F S (h f)
  rw [hp] at this
  exact ⟨C, f, fd, ps, this, hm, M1, M2, hb f fd F⟩
end
theorem eqF_of {K : PySem.W.Frag} {h : Heap} {mg : Str → Option Value} {x qual : Str} {st : Stmt} (X : K.In h) (N : h.Ns mainGlobals mg) {C f : Addr} {od an : Option Addr} {sl : Array (Option Value)} {oc kV dc pm cd ct : Value}
    (aC : PySem.W.nsIn K mainGlobals x = some (some (.ref C))) (a1 : PySem.W.findIn K (.ref C) "__eq__" = some (some (.ref f))) (i1 : PySem.W.isFn K (.ref f) = true)
    (l1 : K.lookup f = some ⟨oc, od, .func (PySem.W.fnOf "__eq__" qual (defArgs st) (defBody st) (defScope st) .none kV dc pm an cd ct), sl⟩) (c1 : PySem.W.codeIn K cd qual = true) (k1 : PySem.W.keepIn K (.ref f) = true) : EqF ⟨K, mg⟩ x qual st :=
  ⟨C, f, _, PySem.W.mg_of X N aC, a1, i1, fun_mk (st := st) l1 c1 k1⟩
theorem insF_of {K : PySem.W.Frag} {h : Heap} {mg : Str → Option Value} {x : Str} (X : K.In h) (N : h.Ns mainGlobals mg) {C : Addr} (aC : PySem.W.nsIn K mainGlobals x = some (some (.ref C)))
    (pg : PySem.W.plainGet K C Str.empty = true) (hd : PySem.W.hasDictIn K C = true) (po : PySem.W.plainOver K C = true) (sa : PySem.W.findIn K (.ref C) "__setattr__" = some (some (.builtin "object.__setattr__")))
    (k2 : PySem.W.findIn K (.ref C) "__class__" = some (some (.builtin "object.__class__"))) (k3 : PySem.W.specialIn K (.builtin "object.__class__") "__get__" = some (some (.builtin "getset_descriptor.__get__"))) (k4 : PySem.W.takesIn K (.builtin "object.__class__") = some true)
    (k5 : PySem.W.mroIn K C (.type "object") = some true) (k6 : PySem.W.kitOne K (.ref C) (.ref C) = some true) : InsF ⟨K, mg⟩ x := ⟨C, PySem.W.mg_of X N aC, ⟨pg, hd, po, sa⟩, k2, k3, k4, k5, k6⟩
end TK

set_option Elab.async false
set_option linter.all false
set_option maxRecDepth 100000
set_option maxHeartbeats 4000000
namespace TK
open PySem PySem.Spec
open PyProof.Rows hiding St
open L2
/-! # t[::-1] of a tuple -/
section
variable {prog : Program} {w : World} {A : Around} {s : Shared} {E : Value → Shared → Prop}
theorem back_places (m : Nat) : Builtin.Slice.slicePlaces ((m : Int) - 1) (-1) (-1) = m := by
  unfold Builtin.Slice.slicePlaces
  rw [if_neg (show ¬ ((-1 : Int) > 0) by decide)]
  have e1 : (- -1 : Int) = 1 := by decide
  rw [e1, Int.ediv_one]
  split <;> omega
theorem filterMap_same {α β : Type} {f g : α → Option β} : ∀ {l : List α}, (∀ x ∈ l, f x = g x) → l.filterMap f = l.filterMap g
  | [], _ => rfl
  | x :: xs, h => by
    rw [List.filterMap_cons, List.filterMap_cons, h x (List.mem_cons_self ..), filterMap_same fun y hy => h y (List.mem_cons_of_mem x hy)]
theorem back_pick (xs : Array Value) : (List.range xs.size).filterMap (fun (k : Nat) => xs[(((xs.size : Int) - 1) + (k : Int) * (-1)).toNat]?) = xs.toList.reverse := by
  have e : ∀ k ∈ List.range xs.size, (((xs.size : Int) - 1) + (k : Int) * (-1)).toNat = xs.size - 1 - k := fun k hk => by
    have := List.mem_range.mp hk
    omega
  have e2 : (List.range xs.size).filterMap (fun (k : Nat) => xs[(((xs.size : Int) - 1) + (k : Int) * (-1)).toNat]?) = ((List.range xs.size).map fun k => xs.size - 1 - k).filterMap (xs[·]?) := by
    rw [List.filterMap_map]
    refine filterMap_same fun k hk => ?_
    show xs[_]? = xs[xs.size - 1 - k]?
    rw [e k hk]
  rw [e2, PySem.W.krv_range, List.filterMap_reverse, PySem.W.krv_all]
theorem back_applied {c : Addr} {vl vu vs : Value} {m : Nat} {Q : Int × Int × Nat → Shared → Prop} (hc : s.heap.IsSliceOf c vl vu vs) (pl : IsPart vl none) (pu : IsPart vu none) (ps : IsPart vs (some (-1)))
    (h : Q ((m : Int) - 1, -1, m) s) : wpAny (model prog w) A (Builtin.Slice.sliceApplied (.ref c) (pure (m : Int))) Q E s := by
  obtain ⟨ob, ho, _, hd⟩ := id hc
  unfold Builtin.Slice.sliceApplied Builtin.Slice.sliceFields
  refine wpAny_bind (wpAny_bind (wpAny_field ho hd (x := vl) rfl (wpAny_bind (wpAny_field ho hd (x := vu) rfl (wpAny_bind (wpAny_field ho hd (x := vs) rfl (wpAny_pure (wpAny_bind (HT.slicePart_ ps ?_)))))))))
  refine (?_ : wpAny _ _ (if ((-1 : Int) == 0) = true then _ else _) _ _ s)
  rw [if_neg (show ¬ ((-1 : Int) == 0) = true by decide)]
  refine wpAny_bind (HT.slicePart_ pl (wpAny_bind (HT.slicePart_ pu (wpAny_bind (wpAny_pure (?_ : wpAny _ _ (match Builtin.Slice.sliceAdjust none none (-1) (m : Int) with | (lo, hi) => pure (lo, (-1 : Int), Builtin.Slice.slicePlaces lo hi (-1))) _ _ s))))))
  have ea : Builtin.Slice.sliceAdjust none none (-1) (m : Int) = ((m : Int) - 1, -1) := rfl
  rw [ea]
  refine (?_ : wpAny _ _ (pure ((m : Int) - 1, (-1 : Int), Builtin.Slice.slicePlaces ((m : Int) - 1) (-1) (-1))) _ _ s)
  rw [back_places]
  exact wpAny_pure h
theorem back_tuple {t c : Addr} {us : List Value} {vl vu vs : Value} {Q : Value → Shared → Prop} (ht : IsTup s.heap t us.toArray) (hc : s.heap.IsSliceOf c vl vu vs) (pl : IsPart vl none) (pu : IsPart vu none) (ps : IsPart vs (some (-1))) (hz : us.length ≤ sizeLine)
    (h : Q (.ref s.heap.objs.size) { s with heap := s.heap.push { cls := .type "tuple", data := .seq us.reverse.toArray } }) : wpAny (model prog w) A (getItem (.ref t) (.ref c)) Q E s := by
  obtain ⟨ob, ho, hcl, hd⟩ := id hc
  have hT : s.TypeIs (.ref c) "slice" := ⟨ob, ho, hcl⟩
  have hfit : sizeOk (.seq us.reverse.toArray) := by
    show us.reverse.toArray.size ≤ sizeLine
    rw [List.size_toArray, List.length_reverse]; exact hz
  unfold getItem
  try with_reducible refine wpAny_holding ?_
  first | refine wpAny_bind (wpAny_pure ?_) | skip
  refine wpAny_bind (wpAny_sequenceKey ht.typeIs (by decide) (wpAny_bind (wpAny_callSpecial?_slot (name := Str.ofString "__getitem__") ht.typeIs PyProof.Rows.slot_tuple_getitem (wpAny_call_entry PyProof.Rows.slot_tuple_getitem ht.typeIs entry_tuple_getitem (?_ : wpAny _ _ (Builtin.Tuple.tupleItemsOf (.ref t) >>= _) _ _ s) (args_tuple_getitem _ _)))))
  refine wpAny_bind (tupleItemsOf_ ht (wpAny_bind (wpAny_typeOf hT ?_)))
  rw [if_pos (show _ = true by decide)]
  refine wpAny_bind (back_applied (m := us.toArray.size) hc pl pu ps ?_)
  have hno : ¬ ((((us.toArray.size : Int) - 1) == 0 && (-1 : Int) == 1 && us.toArray.size == us.toArray.size) = true) := by
    intro q
    rw [Bool.and_eq_true, Bool.and_eq_true] at q
    exact absurd q.1.2 (by decide)
  refine (?_ : wpAny _ _ (if (((us.toArray.size : Int) - 1) == 0 && (-1 : Int) == 1 && us.toArray.size == us.toArray.size) = true then _ else _) _ _ s)
  rw [if_neg hno, back_pick]
  first
    | exact wpAny_bind (m := Builtin.Tuple.tupleExact _) (wpAny_newObj_type (wpAny_pure ⟨_, rfl, wpAny_pure h⟩) hfit)
    | exact wpAny_bind (m := Builtin.Tuple.tupleExact _) (wpAny_newObj_type (wpAny_bind (wpAny_pure (wpAny_pure ⟨_, rfl, wpAny_pure h⟩))) hfit)
    | exact wpAny_bind (wpAny_bind (m := Builtin.Tuple.tupleExact _) (wpAny_newObj_type (wpAny_pure (wpAny_pure ⟨_, rfl, wpAny_pure h⟩)) hfit))
    | exact wpAny_bind (wpAny_bind (m := Builtin.Tuple.tupleExact _) (wpAny_newObj_type (wpAny_pure ⟨_, rfl, wpAny_pure h⟩) hfit))
end
def tRevT (K : PySem.W.Frag) (te : TE) : TE := fun σ H Q => te σ H fun x H1 => ∃ a xs, x = .ref a ∧ SqT K H1 a xs ∧ ∀ p, H1 p = none → Q (.ref p) (upd H1 p (.tup xs.reverse))
theorem pe_revT {X : Cx} {e : Expr} {te : TE} {k : Nat} {p1 p2 p3 pos : Pos} (he : PE X e te) : PE X (.Subscript e (.Slice none none (some (.UnaryOp .USub (.Constant (.int 1) k p1) p2)) p3) pos) (tRevT X.K te) := by
  refine ⟨fun pins s σ H Q I h => ?_⟩
  have stp : PO X (some (.UnaryOp .USub (.Constant (.int 1) k p1) p2)) (tPart (tUn (rU fun i => .int (-i)) (tC (.int 1)))) := po_some (pe_un un_neg pe_int)
  refine Subscript_ (thn (he.run pins s σ H _ I h) fun v s1 ⟨x, H1, J1, r1, a, xs, ex, hx, q⟩ => ?_)
  subst ex
  cases r1
  refine wpAny_Slice (thn (po_none.run pins s1 σ H1 (fun o G => o = none ∧ G = H1) J1 ⟨rfl, rfl⟩) fun vl s2 ⟨l, H2, J2, pl, el, e2⟩ => ?_)
  subst el e2
  refine thn (po_none.run pins s2 σ H2 (fun o G => o = none ∧ G = H2) J2 ⟨rfl, rfl⟩) fun vu s3 ⟨u, H3, J3, pu, eu, e3⟩ => ?_
  subst eu e3
  refine thn (stp.run pins s3 σ H3 (fun o G => o = some (-1) ∧ G = H3) J3 ⟨1, rfl, -1, rfl, rfl, rfl⟩) fun vs s4 ⟨o, H4, J4, ps, eo, e4⟩ => ?_
  subst eo e4
  have J5 : Inv X pins σ H4 { s4 with heap := s4.heap.push { cls := .type "slice", data := .fields #[vl, vu, vs] } } := J4.kept (t' := s4.toks) fun b ob w => Heap.get?_push_of_some _ w
  obtain ⟨its, rv, ht, hz⟩ := J5.tuple hx
  refine (?_ : wpAny (model X.prog X.w) X.A (subscriptTail e (.Slice none none (some (.UnaryOp .USub (.Constant (.int 1) k p1) p2)) p3) (.ref a) (.ref s4.heap.objs.size)) (EP X pins σ Q) X.xe { s4 with heap := s4.heap.push { cls := .type "slice", data := .fields #[vl, vu, vs] } })
  refine tail_any (ops := [.ref a, .ref s4.heap.objs.size]) ht.typeIs (PyProof.Rows.slot_tuple_getitem.lookup) (back_tuple ht (Heap.IsSliceOf.new _ vl vu vs) pl pu ps (by rw [← rv.length]; exact hz) ?_) (by with_unfolding_all rfl)
  exact ⟨.ref _, _, J5.laid (t' := s4.toks) (o := .tup xs.reverse) (fun b ob w => Heap.get?_push_of_some _ w) (Nat.le_refl _) ⟨by rw [List.length_reverse]; exact hz, _, rv.reverse, IsTup.new _ _⟩, rfl, q _ (J5.hok.fresh (Nat.le_refl _))⟩
def eRevT (fe : EF) : EF := fun env st => (fe env st).bind fun x st1 => match x with
  | .tup ds => .ok (.tup ds.reverse) st1
  | _ => .bad
theorem ae_revT {X : Cx} {W : WX} {e : Expr} {fe : EF} {k : Nat} {p1 p2 p3 pos : Pos} (he : AE X W e fe) : AE X W (.Subscript e (.Slice none none (some (.UnaryOp .USub (.Constant (.int 1) k p1) p2)) p3) pos) (eRevT fe) := (pe_revT he).weak fun σ H Q ⟨μ, env, st, hs, er, p⟩ =>
  ⟨μ, env, st, hs, er, Post.bind p fun x st1 μ1 H1 v _ x1 hs1 r1 p1 => by
    split at p1
    · obtain ⟨a, vs, rfl, hq, rs⟩ := r1
      exact ⟨a, vs, rfl, .of hq, fun p hp => p1 μ1 _ _ (.new hp) (hs1.new hp) ⟨p, _, rfl, upd_same, RelDs.ext hs1 (.new hp) _ _ rs.reverse⟩⟩
    · exact p1.elim⟩
@[simp] theorem eRevT_ap0 (fe : EF) (env : AEnv) (st : Store) : eRevT fe env st = ((fe env st).bind fun x st1 => match x with
  | .tup ds => .ok (.tup ds.reverse) st1
  | _ => .bad) := (Eq.refl _).trans rfl
end TK

set_option Elab.async false
set_option linter.all false
set_option maxRecDepth 100000
set_option maxHeartbeats 4000000
namespace TK
open PySem PySem.Spec
open PyProof.Rows hiding St
open L2
/-! # dict comprehensions with int and text keys -/
def hasK (k : Key) (kvs : List (D × D)) : Bool := kvs.any fun kv => decide (keyS kv.1 = some k)
def putD (kvs : List (D × D)) (d : D) (k : Key) (v : D) : List (D × D) :=
  if hasK k kvs = true then kvs.map (fun kv => if keyS kv.1 = some k then (kv.1, v) else kv) else kvs ++ [(d, v)]
section
variable {G : GX} {μ : List Addr} {H : Hp}
theorem RelK.length : ∀ {kvs : List (D × D)} {ks : List (Key × V)}, RelK G μ H keyS kvs ks → ks.length = kvs.length
  | [], _, r => by cases r; rfl
  | (k, d) :: kvs, _, r => by obtain ⟨c, v, rest, rfl, _, _, rs⟩ := r; simp [RelK.length rs]
theorem RelK.any {k : Key} : ∀ {kvs : List (D × D)} {ks : List (Key × V)}, RelK G μ H keyS kvs ks → (ks.any fun kv => decide (kv.1 = k)) = hasK k kvs
  | [], _, r => by cases r; rfl
  | (x, d) :: kvs, _, r => by
    obtain ⟨c, v, rest, rfl, ek, _, rs⟩ := r
    have ih := RelK.any (k := k) rs
    unfold hasK at ih ⊢
    rw [List.any_cons, List.any_cons, ih]
    congr 1
    show decide (c = k) = decide (keyS x = some k)
    rw [ek]; simp
theorem RelK.mapv {k : Key} {d : D} {v : V} (rd : RelD G μ H d v) : ∀ {kvs : List (D × D)} {ks : List (Key × V)}, RelK G μ H keyS kvs ks →
    RelK G μ H keyS (kvs.map fun kv => if keyS kv.1 = some k then (kv.1, d) else kv) (ks.map fun kv => if kv.1 = k then (kv.1, v) else kv)
  | [], _, r => by cases r; rfl
  | (x, y) :: kvs, _, r => by
    obtain ⟨c, z, rest, rfl, ek, rz, rs⟩ := r
    have ih := RelK.mapv (k := k) rd rs
    rw [List.map_cons, List.map_cons]
    by_cases h : c = k
    · subst h
      rw [if_pos ek, if_pos rfl]
      exact ⟨c, v, _, rfl, ek, rd, ih⟩
    · rw [if_neg (show ¬ keyS x = some k by rw [ek]; simpa using h), if_neg h]
      exact ⟨c, z, _, rfl, ek, rz, ih⟩
theorem RelK.snoc {k : Key} {x d : D} {v : V} (ek : keyS x = some k) (rd : RelD G μ H d v) : ∀ {kvs : List (D × D)} {ks : List (Key × V)}, RelK G μ H keyS kvs ks →
    RelK G μ H keyS (kvs ++ [(x, d)]) (ks ++ [(k, v)])
  | [], _, r => by cases r; exact ⟨k, v, [], rfl, ek, rd, rfl⟩
  | (y, z) :: kvs, _, r => by
    obtain ⟨c, w, rest, rfl, ec, rz, rs⟩ := r
    exact ⟨c, w, _, rfl, ec, rz, RelK.snoc ek rd rs⟩
theorem RelK.put {k : Key} {x d : D} {v : V} (ek : keyS x = some k) (rd : RelD G μ H d v) {kvs : List (D × D)} {ks : List (Key × V)} (r : RelK G μ H keyS kvs ks) :
    RelK G μ H keyS (putD kvs x k d) (putK ks k v) := by
  unfold putD putK
  rw [r.any]
  by_cases h : hasK k kvs = true
  · rw [if_pos h, if_pos h]; exact r.mapv rd
  · rw [if_neg h, if_neg h]; exact r.snoc ek rd
theorem key_val {x : D} {k : Key} {v : V} (ek : keyS x = some k) (r : RelD G μ H x v) : v = kV k := by
  cases x with
  | int i => cases ek; exact r
  | str s => cases ek; exact r
  | _ => cases ek
theorem RelK.keys : ∀ {kvs : List (D × D)} {ks : List (Key × V)}, RelK G μ H keyS kvs ks → RelDs G μ H (kvs.map (·.1)) (ks.map fun kv => kV kv.1)
  | [], _, r => by cases r; rfl
  | (x, d) :: kvs, _, r => by
    obtain ⟨c, v, rest, rfl, ek, _, rs⟩ := r
    refine ⟨kV c, _, rfl, ?_, RelK.keys rs⟩
    cases x with
    | int i => cases ek; exact rfl
    | str s => cases ek; exact rfl
    | _ => cases ek
end
theorem putD_len (kvs : List (D × D)) (d : D) (k : Key) (v : D) : (putD kvs d k v).length ≤ kvs.length + 1 := by
  unfold putD
  split
  · simp
  · simp
abbrev relKd (G : GX) : RelT (List (D × D)) V := ⟨fun H0 μ H kvs v => ∃ a ks, v = .ref a ∧ H0 a = none ∧ a ∉ μ ∧ H a = some (.dK ks) ∧ RelK G μ H keyS kvs ks, fun x1 x2 ⟨a, vs, e1, e2, e3, e4⟩ => ⟨a, vs, e1, x1.back x2 e3 e2, e3, e4⟩⟩
abbrev KF := AEnv → Store → R (List (D × D))
abbrev AK (X : Cx) (W : WX) (e : Expr) (f : KF) : Prop := PE X e (tG (gx X) W (relKd (gx X)) f)
open Classical in
noncomputable def dcL (t : Tgt) (c : BF) (kf vf : EF) (g : Its) : List D → List (D × D) → AEnv → Store → R (List (D × D))
  | [], acc, _, st => .ok acc st
  | d :: ds, acc, env, st => match asgT t d env with
    | none => .bad
    | some env1 => (c env1 st).bind fun b st1 => if b then (kf env1 st1).bind fun y st2 => (vf env1 st2).bind fun z st3 => (match keyS y with
        | none => .bad
        | some k => if gOK g st3 then dcL t c kf vf g ds (putD acc y k z) env st3 else .bad)
      else (if gOK g st1 then dcL t c kf vf g ds acc env st1 else .bad)
open Classical in
noncomputable def dcF (vs : List Nat) (fi : IF) (t : Tgt) (c : BF) (kf vf : EF) : KF := fun env st => (fi env st).bind fun g st1 => if gOK g st1 ∧ g.1.length ≤ sizeLine then noX (dcL t c kf vf g g.1 [] (wipeE env vs) st1) else .bad
theorem NoTup.dK {H : Hp} {a : Addr} {xs : List (Key × V)} (h : H a = some (.dK xs)) : NoTup H a := .of h (fun _ z => by cases z) (fun _ _ z => by cases z)
theorem Ext.keep {μ μ' : List Addr} {H H' : Hp} (x : Ext μ H μ' H') {a : Addr} {o : HO} (hn : a ∉ μ) (h : H a = some o) : H' a = some o := by
  obtain ⟨ν, rfl, _, k⟩ := x
  exact k a o h (.inl hn)
section
variable {X : Cx} {W : WX} {kx vx tg iter : Expr} {ifs : List Expr} {scope : Scope} {own : List (Str × Nat)} {pos : Pos} {fi : IF} {t : Tgt} {fc : BF} {kf vf : EF} {lv : Nat}
theorem comp_dk {vs : List Nat} (hv : ∀ i ∈ slotsT t, i ∈ vs) {σ : St} {H : Hp} {Q : VK} (h : tG (gx X) W (relKd (gx X)) (dcF vs fi t fc kf vf) σ H Q) :
    tDc (tG (gx X) W (relI (gx X)) fi) (gT X.K t) (tG (gx X) W0 relB fc) (tG (gx X) W0 (relD (gx X)) kf) (tG (gx X) W0 (relD (gx X)) vf) vs σ H Q := by
  obtain ⟨μ, env, st, hs, er, p⟩ := h
  refine ⟨μ, env, st, hs, er, Post.bind0 p fun g st1 μ1 H1 J _ x1 hs1 ir p1 D hD => ?_⟩
  split at p1
  · rename_i gg
    have hDμ : D ∉ μ1 := hs1.fresh hD
    have hD0 : H D = none := Ext.back x1 .refl hDμ hD
    have whole : ∃ ys stN, dcL t fc kf vf g g.1 [] (wipeE env vs) st1 = .ok ys stN ∧ Post (gx X) W (relKd (gx X)) σ μ H (.ok ys stN) Q := by
      cases q : dcL t fc kf vf g g.1 [] (wipeE env vs) st1 with
      | ok ys stN => rw [q] at p1; exact ⟨ys, stN, rfl, p1⟩
      | exc x s => rw [q] at p1; exact p1.elim
      | bad => rw [q] at p1; exact p1.elim
    obtain ⟨ys, stN, eN, pN⟩ := whole
    refine ⟨fun i m H2 => i + m = g.1.length ∧ ∃ μ2 st2 acc accV, Ext μ1 H1 μ2 H2 ∧ HS (gx X) μ2 H2 st2 ∧ D ∉ μ2 ∧ H2 D = some (.dK accV) ∧ RelK (gx X) μ2 H2 keyS acc accV ∧ acc.length ≤ i ∧ gOK g st2 ∧
        dcL t fc kf vf g (g.1.drop i) acc (wipeE env vs) st2 = .ok ys stN,
      ⟨g.1.length, by omega, μ1, st1, [], [], Ext.new hD, hs1.new hD, hDμ, upd_same, rfl, by simp, gg.1, eN⟩, fun i m H2 w => ?_⟩
    obtain ⟨em, μ2, st2, acc, accV, x2, hs2, hn2, hD2, ra, hl, g2, e2⟩ := w
    by_cases hi : i < g.1.length
    · refine .inr ⟨ir.go μ2 H2 st2 x2 hs2 g2 i hi, fun H' => ∃ m', m' < m ∧ i + 1 + m' = g.1.length ∧ ∃ μ2 st2 acc accV, Ext μ1 H1 μ2 H' ∧ HS (gx X) μ2 H' st2 ∧ D ∉ μ2 ∧ H' D = some (.dK accV) ∧ RelK (gx X) μ2 H' keyS acc accV ∧ acc.length ≤ i + 1 ∧ gOK g st2 ∧
        dcL t fc kf vf g (g.1.drop (i + 1)) acc (wipeE env vs) st2 = .ok ys stN,
        fun H' n => by obtain ⟨m', h1, h2, h3⟩ := n; exact ⟨m', h1, h2, h3⟩, fun x H3 y => ?_⟩
      obtain ⟨d, ed, x3, hs3, rd⟩ := ir.yld μ2 H2 st2 x2 hs2 g2 i x H3 hi y
      have edrop : g.1.drop i = d :: g.1.drop (i + 1) := by
        rw [List.drop_eq_getElem_cons hi]
        rw [List.getElem?_eq_getElem hi] at ed
        cases ed; rfl
      rw [edrop] at e2
      unfold dcL at e2
      split at e2
      · cases e2
      · rename_i env3 e3
        refine gT_ok (G := gx X) t (((er.ext hs x1).wipe vs).ext hs1 (x2.trans x3)) rd e3 fun σ3 er3 hw => ⟨by rw [hw vs hv, wipe_wipe], μ2, env3, st2, hs3, er3, ?_⟩
        cases qc : fc env3 st2 with
        | exc x s => rw [qc] at e2; cases e2
        | bad => rw [qc] at e2; cases e2
        | ok b st4 =>
          rw [qc, R.bind_ok] at e2
          intro μ4 H4 v4 x4 hs4 r4
          have r4 : v4 = b := r4
          subst r4
          have nD : ∀ {μ' : List Addr} {H' : Hp}, Ext μ2 H3 μ' H' → D ∉ μ' ∧ H' D = some (.dK accV) := fun {μ' H'} xe => by
            have h3 := x3.keep hn2 hD2
            refine ⟨?_, xe.keep hn2 h3⟩
            obtain ⟨ν, rfl, f, _⟩ := xe
            intro hm
            rcases List.mem_append.mp hm with z | z
            · exact hn2 z
            · rw [(f D z).1] at h3; cases h3
          cases v4 with
          | false =>
            rw [if_neg (by decide)] at e2 ⊢
            split at e2
            · rename_i g4
              exact ⟨m - 1, by omega, by omega, μ4, st4, acc, accV, (x2.trans x3).trans x4, hs4, (nD x4).1, (nD x4).2, RelK.ext hs2 (x3.trans x4) _ _ ra, by omega, g4, e2⟩
            · cases e2
          | true =>
            rw [if_pos rfl] at e2 ⊢
            refine ⟨μ4, env3, st4, hs4, er3.ext hs3 x4, ?_⟩
            cases qe : kf env3 st4 with
            | exc x s => rw [qe] at e2; cases e2
            | bad => rw [qe] at e2; cases e2
            | ok yd st5 =>
              rw [qe, R.bind_ok] at e2
              intro μ5 H5 v5 x5 hs5 r5
              refine ⟨μ5, env3, st5, hs5, (er3.ext hs3 x4).ext hs4 x5, ?_⟩
              cases qv : vf env3 st5 with
              | exc x s => rw [qv] at e2; cases e2
              | bad => rw [qv] at e2; cases e2
              | ok zd st6 =>
                rw [qv, R.bind_ok] at e2
                intro μ6 H6 v6 x6 hs6 r6
                cases qk : keyS yd with
                | none => rw [qk] at e2; cases e2
                | some k =>
                  rw [qk] at e2
                  simp only at e2
                  split at e2
                  · rename_i g6
                    obtain ⟨nD6, eD6⟩ := nD ((x4.trans x5).trans x6)
                    have ra6 := RelK.ext hs2 (((x3.trans x4).trans x5).trans x6) _ _ ra
                    have hll := ra6.length
                    refine ⟨accV, k, key_val qk r5, eD6, ?_, m - 1, by omega, by omega, μ6, st6, putD acc yd k zd, putK accV k v6, ?_⟩
                    · rw [hll]; exact Nat.lt_of_le_of_lt hl (Nat.lt_of_lt_of_le hi gg.2)
                    · exact ⟨((((x2.trans x3).trans x4).trans x5).trans x6).wr hD, hs6.wr nD6 (.dK eD6), nD6, upd_same, RelK.put qk (RelD.wr (.dK eD6) _ _ r6) (ra6.wr (.dK eD6)), Nat.le_trans (putD_len _ _ _ _) (by omega), g6, e2⟩
                  · cases e2
    · have e0 : i = g.1.length := by omega
      subst e0
      rw [List.drop_length] at e2
      cases e2
      exact .inl ⟨ir.stop μ2 H2 _ x2 hs2 g2, pN μ2 H2 _ (x1.trans x2) hs2 ⟨D, accV, rfl, hD0, hn2, hD2, ra⟩⟩
  · exact p1.elim
theorem ak_comp (c : Ctx X W lv) (hi : AI X W tg iter fi) (own : List (Str × Nat)) (ok : BlkOk X.N X.env.scope scope own)
    (hg : ∀ s H C cl fp, AG (bX X scope s H C cl fp) tg t) (hc : ∀ s H C cl fp, ATs (bX X scope s H C cl fp) W0 ifs fc) (hk : ∀ s H C cl fp, AE (bX X scope s H C cl fp) W0 kx kf) (he : ∀ s H C cl fp, AE (bX X scope s H C cl fp) W0 vx vf)
    (hv : ∀ i ∈ slotsT t, i ∈ own.map (·.2) := by decide) (hs : ∀ x, foldedSetIterable iter X.env x = pure x := by intro _; rfl) : AK X W (.DictComp kx vx [⟨tg, iter, ifs, 0⟩] scope pos) (dcF (own.map (·.2)) fi t fc kf vf) :=
  (pe_dc (g := gT X.K t) (tt := tG (gx X) W0 relB fc) (tk := tG (gx X) W0 (relD (gx X)) kf) (tv := tG (gx X) W0 (relD (gx X)) vf) c.calm c.nd hi ok hg hc hk he hs).weak fun σ H Q h => comp_dk hv h
end
/-! ## list(a new dict) -/
def lKeys (f : KF) : LF := fun env st => (f env st).bind fun kvs st1 => .ok (kvs.map (·.1)) st1
theorem al_keys {X : Cx} {W : WX} {e : Expr} {f : KF} {lv : Nat} {p pos : Pos} (cx : Ctx X W lv) (hm : X.mg "list" = none) (ha : AK X W e f) (hg : Gl X "list" := by rfl) (he : starEach [e] X.env = (false, eval e X.env) :: starEach [] X.env := by rfl) :
    AL X W (.Call (.Name "list" p) [e] [] pos) (lKeys f) := (pe_callTy (call_list_dK cx.calm) hg hm (by decide +kernel) (pa_cons ha pa_nil he) (by decide) (by decide) he rfl).weak fun σ H Q ⟨μ, env, st, hs, er, q⟩ =>
  ⟨μ, env, st, hs, er, Post.bind0 q fun kvs st1 μ1 H1 v _ x1 hs1 r1 p1 => by
    obtain ⟨a, ks, rfl, h0, hn, hk, rs⟩ := r1
    refine ⟨a, ks, rfl, hk, fun l hl => p1 μ1 _ _ (x1.trans (.new hl)) (hs1.new hl) ⟨l, _, rfl, Ext.back x1 .refl (hs1.fresh hl) hl, hs1.fresh hl, upd_same, ?_⟩⟩
    exact RelDs.ext hs1 (.new hl) _ _ rs.keys⟩
end TK

set_option Elab.async false
set_option linter.all false
set_option maxRecDepth 100000
set_option maxHeartbeats 4000000
namespace TK
open PySem PySem.Spec
open PyProof.Rows hiding St
open L2
/-! # xs[::-1] of a list -/
def tRevL (K : PySem.W.Frag) (te : TE) : TE := fun σ H Q => te σ H fun x H1 => ∃ a xs, x = .ref a ∧ SqL K H1 a xs ∧ ∀ p, H1 p = none → Q (.ref p) (upd H1 p (.lst xs.reverse))
theorem pe_revL {X : Cx} {e : Expr} {te : TE} {k : Nat} {p1 p2 p3 pos : Pos} (he : PE X e te) : PE X (.Subscript e (.Slice none none (some (.UnaryOp .USub (.Constant (.int 1) k p1) p2)) p3) pos) (tRevL X.K te) := by
  refine ⟨fun pins s σ H Q I h => ?_⟩
  have stp : PO X (some (.UnaryOp .USub (.Constant (.int 1) k p1) p2)) (tPart (tUn (rU fun i => .int (-i)) (tC (.int 1)))) := po_some (pe_un un_neg pe_int)
  refine Subscript_ (thn (he.run pins s σ H _ I h) fun v s1 ⟨x, H1, J1, r1, a, xs, ex, hx, q⟩ => ?_)
  subst ex
  cases r1
  refine wpAny_Slice (thn (po_none.run pins s1 σ H1 (fun o G => o = none ∧ G = H1) J1 ⟨rfl, rfl⟩) fun vl s2 ⟨l, H2, J2, pl, el, e2⟩ => ?_)
  subst el e2
  refine thn (po_none.run pins s2 σ H2 (fun o G => o = none ∧ G = H2) J2 ⟨rfl, rfl⟩) fun vu s3 ⟨u, H3, J3, pu, eu, e3⟩ => ?_
  subst eu e3
  refine thn (stp.run pins s3 σ H3 (fun o G => o = some (-1) ∧ G = H3) J3 ⟨1, rfl, -1, rfl, rfl, rfl⟩) fun vs s4 ⟨o, H4, J4, ps, eo, e4⟩ => ?_
  subst eo e4
  have J5 : Inv X pins σ H4 { s4 with heap := s4.heap.push { cls := .type "slice", data := .fields #[vl, vu, vs] } } := J4.kept (t' := s4.toks) fun b ob w => Heap.get?_push_of_some _ w
  obtain ⟨its, rv, ht, hz⟩ := J5.list hx
  have hlen := rv.length
  refine (?_ : wpAny (model X.prog X.w) X.A (subscriptTail e (.Slice none none (some (.UnaryOp .USub (.Constant (.int 1) k p1) p2)) p3) (.ref a) (.ref s4.heap.objs.size)) (EP X pins σ Q) X.xe { s4 with heap := s4.heap.push { cls := .type "slice", data := .fields #[vl, vu, vs] } })
  refine tail_any (ops := [.ref a, .ref s4.heap.objs.size]) ht.isList.typeIs (slot_list_getitem.lookup) (wpAny_getItem_list_slice ht.isList (Heap.IsSliceOf.new _ vl vu vs) pl pu ps (by simp) ?_ (by rw [List.size_toArray]; omega)) (by with_unfolding_all rfl)
  rw [PySem.W.krv_pick]
  exact ⟨.ref _, _, J5.laid (t' := s4.toks) (o := .lst xs.reverse) (fun b ob w => Heap.get?_push_of_some _ w) (Nat.le_refl _) ⟨by rw [List.length_reverse]; exact hz, _, 0, rv.reverse, Heap.get?_push_size _ rfl⟩, rfl, q _ (J5.hok.fresh (Nat.le_refl _))⟩
def lRevL (fe : EF) : LF := fun env st => (fe env st).bind fun x st1 => match x with
  | .ref n => (match seqOf (.ref n) st1 with
    | some ds => .ok ds.reverse st1
    | none => .bad)
  | _ => .bad
theorem al_revL {X : Cx} {W : WX} {e : Expr} {fe : EF} {k : Nat} {p1 p2 p3 pos : Pos} (he : AE X W e fe) : AL X W (.Subscript e (.Slice none none (some (.UnaryOp .USub (.Constant (.int 1) k p1) p2)) p3) pos) (lRevL fe) := (pe_revL he).weak fun σ H Q ⟨μ, env, st, hs, er, p⟩ =>
  ⟨μ, env, st, hs, er, Post.bind0 p fun x st1 μ1 H1 v _ x1 hs1 r1 p1 => by
    cases x with
    | ref n =>
      obtain ⟨a, e1, rfl⟩ := r1
      simp only at p1
      split at p1
      · rename_i ds e2
        obtain ⟨vs, hq, rs⟩ := hs1.seq e1 e2
        exact ⟨a, vs, rfl, hq, fun p hp => p1 μ1 _ _ (x1.trans (.new hp)) (hs1.new hp) ⟨p, _, rfl, Ext.back x1 .refl (hs1.fresh hp) hp, hs1.fresh hp, upd_same, RelDs.ext hs1 (.new hp) _ _ rs.reverse⟩⟩
      · exact p1.elim
    | _ => exact p1.elim⟩
@[simp] theorem lRevL_ap (fe : EF) (env : AEnv) (st : Store) : lRevL fe env st = ((fe env st).bind fun x st1 => match x with
  | .ref n => (match seqOf (.ref n) st1 with
    | some ds => .ok ds.reverse st1
    | none => .bad)
  | _ => .bad) := (Eq.refl _).trans rfl
end TK

set_option Elab.async false
set_option linter.all false
set_option maxRecDepth 100000
set_option maxHeartbeats 4000000
namespace TK
open PySem PySem.Spec
open PyProof.Rows hiding St
open L2
/-! # what plain functions answer: the tools -/
/-! ### one step of a plain function -/
/-- a call's result, kept from checks by computing -/
noncomputable def gcH (st : Store) (r : R D) : R D := hid (gcR st r)
open Classical in
noncomputable def okIf {α : Type} (p : Prop) (r : R α) : R α := if p then r else .bad
theorem okIf_pos {α : Type} {p : Prop} (h : p) (r : R α) : okIf p r = r := by unfold okIf; rw [if_pos h]
@[simp] theorem okIf_true {α : Type} (r : R α) : okIf True r = r := okIf_pos trivial r
theorem ite_okIf {α : Type} (p : Prop) [Decidable p] (r : R α) : (if p then r else .bad) = okIf p r := by
  unfold okIf
  by_cases h : p <;> simp [h]
@[simp] theorem runDef_ap (n : Nat) (body : SF) (ds : List D) (st : Store) : runDef n body ds st = (match body (ds.map some ++ List.replicate (n - ds.length) none) st with
  | .next _ st' => .ok .non st'
  | .ret d st' => .ok d st'
  | .exc _ x st' => .exc x st'
  | _ => .bad) := (Eq.refl _).trans rfl
@[simp] theorem sSeq_ap (f g : SF) (env : AEnv) (st : Store) : sSeq f g env st = (sThen (f env st) g) := (Eq.refl _).trans rfl
@[simp] theorem sNil_ap  (env : AEnv) (st : Store) : sNil  env st = (.next env st) := (Eq.refl _).trans rfl
@[simp] theorem sSet_ap (i : Nat) (fe : EF) (env : AEnv) (st : Store) : sSet i fe env st = (sOf (fe env st) env fun d st1 => .next (env.set i (some d)) st1) := (Eq.refl _).trans rfl
@[simp] theorem sDrop_ap (fe : EF) (env : AEnv) (st : Store) : sDrop fe env st = (sOf (fe env st) env fun _ st1 => .next env st1) := (Eq.refl _).trans rfl
@[simp] theorem sRet_ap (fe : EF) (env : AEnv) (st : Store) : sRet fe env st = (sOf (fe env st) env fun d st1 => .ret d st1) := (Eq.refl _).trans rfl
@[simp] theorem sRetN_ap  (env : AEnv) (st : Store) : sRetN  env st = (.ret .non st) := (Eq.refl _).trans rfl
@[simp] theorem sIf_ap (fc : BF) (f g : SF) (env : AEnv) (st : Store) : sIf fc f g env st = (sOf (fc env st) env fun b st1 => if b then f env st1 else g env st1) := (Eq.refl _).trans rfl
@[simp] theorem sBrk_ap  (env : AEnv) (st : Store) : sBrk  env st = (.brk env st) := (Eq.refl _).trans rfl
@[simp] theorem sCont_ap  (env : AEnv) (st : Store) : sCont  env st = (.cont env st) := (Eq.refl _).trans rfl
@[simp] theorem sAsg_ap (t : Tgt) (fe : EF) (env : AEnv) (st : Store) : sAsg t fe env st = (sOf (fe env st) env fun d st1 => match asgT t d env with
  | some env' => .next env' st1
  | none => .bad) := (Eq.refl _).trans rfl
@[simp] theorem eVar_ap (i : Nat) (env : AEnv) (st : Store) : eVar i env st = (match env[i]? with
  | some (some d) => .ok d st
  | _ => .bad) := (Eq.refl _).trans rfl
@[simp] theorem eC_ap (d : D) (env : AEnv) (st : Store) : eC d env st = (.ok d st) := (Eq.refl _).trans rfl
@[simp] theorem e1_ap (g : D → Store → R D) (fa : EF) (env : AEnv) (st : Store) : e1 g fa env st = ((fa env st).bind fun x st1 => g x st1) := (Eq.refl _).trans rfl
@[simp] theorem e2_ap (g : D → D → Store → R D) (fa fb : EF) (env : AEnv) (st : Store) : e2 g fa fb env st = ((fa env st).bind fun x st1 => (fb env st1).bind fun y st2 => g x y st2) := (Eq.refl _).trans rfl
@[simp] theorem eCall_ap (m : List D → Store → R D) (fa : LF) (env : AEnv) (st : Store) : eCall m fa env st = ((fa env st).bind fun ds st1 => gcH st1 (m ds st1)) := by
  unfold eCall gcH
  simp only [hid_eq]
@[simp] theorem lNil_ap  (env : AEnv) (st : Store) : lNil  env st = (.ok [] st) := (Eq.refl _).trans rfl
@[simp] theorem lCons_ap (fa : EF) (fr : LF) (env : AEnv) (st : Store) : lCons fa fr env st = ((fa env st).bind fun d st1 => (fr env st1).bind fun ds st2 => .ok (d :: ds) st2) := (Eq.refl _).trans rfl
@[simp] theorem eAnd_ap (fa fb : EF) (env : AEnv) (st : Store) : eAnd fa fb env st = ((fa env st).bind fun d st1 => match truD d st1 with
  | some true => fb env st1
  | some false => .ok d st1
  | none => .bad) := (Eq.refl _).trans rfl
@[simp] theorem eOr_ap (fa fb : EF) (env : AEnv) (st : Store) : eOr fa fb env st = ((fa env st).bind fun d st1 => match truD d st1 with
  | some false => fb env st1
  | some true => .ok d st1
  | none => .bad) := (Eq.refl _).trans rfl
@[simp] theorem eNot_ap (fa : EF) (env : AEnv) (st : Store) : eNot fa env st = ((fa env st).bind fun d st1 => match truD d st1 with
  | some b => .ok (.bl (!b)) st1
  | none => .bad) := (Eq.refl _).trans rfl
@[simp] theorem eIf_ap (fc : BF) (fa fb : EF) (env : AEnv) (st : Store) : eIf fc fa fb env st = ((fc env st).bind fun b st1 => if b then fa env st1 else fb env st1) := (Eq.refl _).trans rfl
@[simp] theorem bTru_ap (fe : EF) (env : AEnv) (st : Store) : bTru fe env st = ((fe env st).bind fun d st1 => match truD d st1 with
  | some b => .ok b st1
  | none => .bad) := (Eq.refl _).trans rfl
@[simp] theorem bNot_ap (fa : BF) (env : AEnv) (st : Store) : bNot fa env st = ((fa env st).bind fun b st1 => .ok (!b) st1) := (Eq.refl _).trans rfl
@[simp] theorem bAnd_ap (fa fb : BF) (env : AEnv) (st : Store) : bAnd fa fb env st = ((fa env st).bind fun b st1 => if b then fb env st1 else .ok false st1) := (Eq.refl _).trans rfl
@[simp] theorem bOr_ap (fa fb : BF) (env : AEnv) (st : Store) : bOr fa fb env st = ((fa env st).bind fun b st1 => if b then .ok true st1 else fb env st1) := (Eq.refl _).trans rfl
@[simp] theorem bB_ap (fe : EF) (env : AEnv) (st : Store) : bB fe env st = ((fe env st).bind fun d st1 => match d with
  | .bl b => .ok b st1
  | _ => .bad) := (Eq.refl _).trans rfl
@[simp] theorem eIsi_ap (Ts : List String) (fe : EF) (env : AEnv) (st : Store) : eIsi Ts fe env st = ((fe env st).bind fun d st1 => match kindD d st1 with
  | some k => .ok (.bl (subT Ts k)) st1
  | none => .bad) := (Eq.refl _).trans rfl
@[simp] theorem eChain_ap (g g' : D → D → Store → R D) (fa fb fc : EF) (env : AEnv) (st : Store) : eChain g g' fa fb fc env st = ((fa env st).bind fun x st1 => (fb env st1).bind fun y st2 => (g x y st2).bind fun z st3 => match z with
  | .bl true => (fc env st3).bind fun w st4 => g' y w st4
  | .bl false => .ok (.bl false) st3
  | _ => .bad) := (Eq.refl _).trans rfl
@[simp] theorem eTup_ap (fr : LF) (env : AEnv) (st : Store) : eTup fr env st = ((fr env st).bind fun ds st1 => okIf (ds.length ≤ sizeLine) (.ok (.tup ds) st1)) := by first | (simp only [eTup, ite_okIf]; done) | (simp only [eTup, ite_okIf]; rfl)
@[simp] theorem lLst_ap (fr : LF) (env : AEnv) (st : Store) : lLst fr env st = ((fr env st).bind fun ds st1 => okIf (ds.length ≤ sizeLine) (.ok ds st1)) := by first | (simp only [lLst, ite_okIf]; done) | (simp only [lLst, ite_okIf]; rfl)
@[simp] theorem eLst_ap (fl : LF) (env : AEnv) (st : Store) : eLst fl env st = ((fl env st).bind fun ds st1 => .ok (.ref st1.length) (st1 ++ [.lst ds])) := (Eq.refl _).trans rfl
@[simp] theorem lRd_ap (fe : EF) (env : AEnv) (st : Store) : lRd fe env st = ((fe env st).bind fun d st1 => match seqOf d st1 with
  | some ds => .ok ds st1
  | none => .bad) := (Eq.refl _).trans rfl
@[simp] theorem lRef_ap (fe : EF) (env : AEnv) (st : Store) : lRef fe env st = ((fe env st).bind fun d st1 => match d with
  | .ref n => (match st1[n]? with
    | some (.lst ds) => .ok ds st1
    | _ => .bad)
  | _ => .bad) := (Eq.refl _).trans rfl
@[simp] theorem eQ_ap (g : List D → Store → R D) (fl : LF) (env : AEnv) (st : Store) : eQ g fl env st = ((fl env st).bind g) := (Eq.refl _).trans rfl
@[simp] theorem lQ_ap (g : List D → Store → R (List D)) (fl : LF) (env : AEnv) (st : Store) : lQ g fl env st = ((fl env st).bind g) := (Eq.refl _).trans rfl
@[simp] theorem eB_ap (g : List D → Store → R D) (fr : LF) (env : AEnv) (st : Store) : eB g fr env st = ((fr env st).bind g) := (Eq.refl _).trans rfl
@[simp] theorem iSeqF_ap (fe : EF) (env : AEnv) (st : Store) : iSeqF fe env st = ((fe env st).bind fun d st1 => match d with
  | .tup ds => .ok (ds, []) st1
  | .ref n => (match seqOf (.ref n) st1 with
    | some ds => .ok (ds, [(n, ds)]) st1
    | none => .bad)
  | _ => .bad) := (Eq.refl _).trans rfl
@[simp] theorem iLstF_ap (fl : LF) (env : AEnv) (st : Store) : iLstF fl env st = ((fl env st).bind fun ds st1 => .ok (ds, []) st1) := (Eq.refl _).trans rfl
theorem rngR_eq {i j : Int} {n : Nat} {st : Store} (e : j = i + n) (h : n ≤ 1000000) (h0 : -1000000 ≤ i) (h1 : i ≤ 1000000) : rngR i j st = .ok (rangeD i n, []) st := by
  have h2 : (2 : Int) ^ 62 = 4611686018427387904 := by decide
  unfold rngR
  rw [hid_eq, h2]
  have : -4611686018427387904 ≤ i ∧ i < 4611686018427387904 ∧ -4611686018427387904 ≤ j ∧ j < 4611686018427387904 := by omega
  rw [if_pos this]
  have : (j - i).toNat = n := by omega
  rw [this]
theorem rngR1_eq {j : Int} {n : Nat} {st : Store} (e : j = n) (h : n ≤ 1000000) : rngR1 j st = .ok (rangeD 0 n, []) st := by
  have h2 : (2 : Int) ^ 62 = 4611686018427387904 := by decide
  unfold rngR1
  rw [hid_eq, h2]
  have : -4611686018427387904 ≤ j ∧ j < 4611686018427387904 := by omega
  rw [if_pos this]
  have : j.toNat = n := by omega
  rw [this]
theorem rngR_nat {n : Nat} {st : Store} (h : n ≤ 1000000) : rngR1 (n : Int) st = .ok (rangeD 0 n, []) st := rngR1_eq rfl h
theorem rngR_suc {n : Nat} {st : Store} (h : n + 1 ≤ 1000000) : rngR1 ((n : Int) + 1) st = .ok (rangeD 0 (n + 1), []) st := rngR1_eq (by omega) h
@[simp] theorem iRng1F_ap (fa : LF) (env : AEnv) (st : Store) : iRng1F fa env st = ((fa env st).bind fun ds st1 => match ds with
  | [.int j] => rngR1 j st1
  | _ => .bad) := (Eq.refl _).trans rfl
@[simp] theorem iRng2F_ap (fa : LF) (env : AEnv) (st : Store) : iRng2F fa env st = ((fa env st).bind fun ds st1 => match ds with
  | [.int i, .int j] => rngR i j st1
  | _ => .bad) := (Eq.refl _).trans rfl
@[simp] theorem iTupF_ap (fe : EF) (env : AEnv) (st : Store) : iTupF fe env st = ((fe env st).bind fun d st1 => match d with
  | .tup ds => .ok (ds, []) st1
  | _ => .bad) := (Eq.refl _).trans rfl
@[simp] theorem bYes_ap  (env : AEnv) (st : Store) : bYes  env st = (.ok true st) := (Eq.refl _).trans rfl
@[simp] theorem sSub_ap (fo fi fe : EF) (env : AEnv) (st : Store) : sSub fo fi fe env st = (sOf (fe env st) env fun y st1 => sOf (fo env st1) env fun x st2 => sOf (fi env st2) env fun i st3 => match x, i with
  | .ref n, .int k => (match st3[n]? with
    | some (.lst xs) => (match ixN xs.length k with
      | some j => .next env (st3.set n (.lst (xs.set j y)))
      | none => .bad)
    | _ => .bad)
  | _, _ => .bad) := (Eq.refl _).trans rfl
@[simp] theorem eM_ap (ok : D → Store → Bool) (g : D → List D → Store → R D) (fo : EF) (fr : LF) (env : AEnv) (st : Store) : eM ok g fo fr env st = ((fo env st).bind fun x st1 => if ok x st1 then (fr env st1).bind fun ds st2 => g x ds st2 else .bad) := (Eq.refl _).trans rfl
@[simp] theorem extendF_ap (fo : EF) (fl : LF) (env : AEnv) (st : Store) : extendF fo fl env st = ((fo env st).bind fun x st1 => if isLst x st1 then (fl env st1).bind fun ys st2 => match x with
  | .ref n => (match st2[n]? with
    | some (.lst xs) => okIf (xs.length + ys.length ≤ sizeLine) (.ok .non (st2.set n (.lst (xs ++ ys))))
    | _ => .bad)
  | _ => .bad else .bad) := by first | (simp only [extendF, ite_okIf]; done) | (simp only [extendF, ite_okIf]; rfl)
@[simp] theorem eSl_ap (fe : EF) (fl fh : OF) (env : AEnv) (st : Store) : eSl fe fl fh env st = ((fe env st).bind fun x st1 => (fl env st1).bind fun lo st2 => (fh env st2).bind fun hi st3 => match x with
  | .tup ds => .ok (.tup (cutD ds lo hi)) st3
  | _ => .bad) := (Eq.refl _).trans rfl
@[simp] theorem lSl_ap (fe : EF) (fl fh : OF) (env : AEnv) (st : Store) : lSl fe fl fh env st = ((fe env st).bind fun x st1 => (fl env st1).bind fun lo st2 => (fh env st2).bind fun hi st3 => match x with
  | .ref n => (match seqOf (.ref n) st3 with
    | some ds => .ok (cutD ds lo hi) st3
    | none => .bad)
  | _ => .bad) := (Eq.refl _).trans rfl
@[simp] theorem oNone_ap  (env : AEnv) (st : Store) : oNone  env st = (.ok none st) := (Eq.refl _).trans rfl
@[simp] theorem oSome_ap (fe : EF) (env : AEnv) (st : Store) : oSome fe env st = ((fe env st).bind fun d st1 => match d with
  | .int i => .ok (some i) st1
  | _ => .bad) := (Eq.refl _).trans rfl
@[simp] theorem lCat_ap (fl fl' : LF) (env : AEnv) (st : Store) : lCat fl fl' env st = ((fl env st).bind fun xs st1 => (fl' env st1).bind fun ys st2 => okIf (xs.length + ys.length ≤ sizeLine) (.ok (xs ++ ys) st2)) := by first | (simp only [lCat, ite_okIf]; done) | (simp only [lCat, ite_okIf]; rfl)
@[simp] theorem lCatE_ap (fa : EF) (fl : LF) (env : AEnv) (st : Store) : lCatE fa fl env st = ((fa env st).bind fun x st1 => (fl env st1).bind fun ys st2 => match x with
  | .ref n => (match st2[n]? with
    | some (.lst xs) => okIf (xs.length + ys.length ≤ sizeLine) (.ok (xs ++ ys) st2)
    | _ => .bad)
  | _ => .bad) := by first | (simp only [lCatE, ite_okIf]; done) | (simp only [lCatE, ite_okIf]; rfl)
@[simp] theorem sRaise_ap (x : Str) (env : AEnv) (st : Store) : sRaise x env st = (.exc env ⟨x, []⟩ st) := (Eq.refl _).trans rfl
@[simp] theorem iEnumF_ap (fr : LF) (env : AEnv) (st : Store) : iEnumF fr env st = ((fr env st).bind fun ds st1 => match ds with
  | [.tup xs] => .ok (enumFrom 0 xs, []) st1
  | [.ref n] => (match seqOf (.ref n) st1 with
    | some xs => .ok (enumFrom 0 xs, [(n, xs)]) st1
    | none => .bad)
  | _ => .bad) := (Eq.refl _).trans rfl
@[simp] theorem iEnumL_ap (fl : LF) (env : AEnv) (st : Store) : iEnumL fl env st = ((fl env st).bind fun ds st1 => .ok (enumFrom 0 ds, []) st1) := (Eq.refl _).trans rfl
@[simp] theorem iZipA_ap (fr : LF) (env : AEnv) (st : Store) : iZipA fr env st = ((fr env st).bind fun ds st1 => match ds with
  | [.tup xs, .tup ys] => .ok (zipD xs ys, []) st1
  | [.ref n, .ref m] => (match seqOf (.ref n) st1, seqOf (.ref m) st1 with
    | some xs, some ys => .ok (zipD xs ys, [(n, xs), (m, ys)]) st1
    | _, _ => .bad)
  | _ => .bad) := (Eq.refl _).trans rfl
@[simp] theorem lRng1_ap (fe : EF) (env : AEnv) (st : Store) : lRng1 fe env st = ((fe env st).bind fun d st1 => match d with
  | .int j => okIf (rgOk 0 j) (.ok (rangeD 0 j.toNat) st1)
  | _ => .bad) := by first | (simp only [lRng1, hid_eq, ite_okIf]; done) | (simp only [lRng1, hid_eq, ite_okIf]; rfl)
@[simp] theorem eRng1_ap (fe : EF) (env : AEnv) (st : Store) : eRng1 fe env st = ((fe env st).bind fun d st1 => match d with
  | .int j => okIf (rgOk 0 j) (.ok (.tup (rangeD 0 j.toNat)) st1)
  | _ => .bad) := by first | (simp only [eRng1, hid_eq, ite_okIf]; done) | (simp only [eRng1, hid_eq, ite_okIf]; rfl)
@[simp] theorem truD_non (st : Store) : truD .non st = some false := (Eq.refl _).trans rfl
@[simp] theorem truD_bl (b : Bool) (st : Store) : truD (.bl b) st = some b := (Eq.refl _).trans rfl
@[simp] theorem truD_int (i : Int) (st : Store) : truD (.int i) st = some (i != 0) := (Eq.refl _).trans rfl
@[simp] theorem truD_tup (ds : List D) (st : Store) : truD (.tup ds) st = some (!ds.isEmpty) := (Eq.refl _).trans rfl
@[simp] theorem truD_ref (n : Nat) (st : Store) : truD (.ref n) st = (seqOf (.ref n) st).map fun ds => !ds.isEmpty := (Eq.refl _).trans rfl
@[simp] theorem kindD_non (st : Store) : kindD .non st = some "NoneType" := (Eq.refl _).trans rfl
@[simp] theorem kindD_bl (b : Bool) (st : Store) : kindD (.bl b) st = some "bool" := (Eq.refl _).trans rfl
@[simp] theorem kindD_int (b : Int) (st : Store) : kindD (.int b) st = some "int" := (Eq.refl _).trans rfl
@[simp] theorem kindD_str (b : Str) (st : Store) : kindD (.str b) st = some "str" := (Eq.refl _).trans rfl
@[simp] theorem kindD_tup (b : List D) (st : Store) : kindD (.tup b) st = some "tuple" := (Eq.refl _).trans rfl
@[simp] theorem kindD_ref (n : Nat) (st : Store) : kindD (.ref n) st = (match st[n]? with
    | some (.lst _) => some "list"
    | some (.rol _) => some "list"
    | some (.dct _) => some "dict"
    | some (.dcT _) => some "dict"
    | _ => none) := (Eq.refl _).trans rfl
@[simp] theorem subT_nil (k : String) : subT [] k = false := (Eq.refl _).trans rfl
@[simp] theorem subT_cons (T : String) (Ts : List String) (k : String) : subT (T :: Ts) k = ((k == T || (k == "bool" && T == "int")) || subT Ts k) := (Eq.refl _).trans rfl
@[simp] theorem addD_bi (k : Bool) (j : Int) (st : Store) : addD (.bl k) (.int j) st = .ok (.int (b2i k + j)) st := (Eq.refl _).trans rfl
@[simp] theorem addD_int (i j : Int) (st : Store) : addD (.int i) (.int j) st = .ok (.int (i + j)) st := (Eq.refl _).trans rfl
@[simp] theorem addD_tup (xs ys : List D) (st : Store) : addD (.tup xs) (.tup ys) st = okIf (xs.length + ys.length ≤ sizeLine) (.ok (.tup (xs ++ ys)) st) := by rw [← ite_okIf]; rfl
@[simp] theorem subD_int (i j : Int) (st : Store) : subD (.int i) (.int j) st = .ok (.int (i - j)) st := (Eq.refl _).trans rfl
@[simp] theorem negD_int (i : Int) (st : Store) : negD (.int i) st = .ok (.int (-i)) st := (Eq.refl _).trans rfl
@[simp] theorem mulD_int (i j : Int) (st : Store) : mulD (.int i) (.int j) st = okIf (mulOk i j) (.ok (.int (i * j)) st) := by rw [← ite_okIf]; rfl
@[simp] theorem mulD_tup (xs : List D) (k : Int) (st : Store) : mulD (.tup xs) (.int k) st = okIf (-1000000 ≤ k ∧ k ≤ 1000 ∧ xs.length ≤ 1000) (.ok (.tup (List.replicate k.toNat xs).flatten) st) := by rw [← ite_okIf]; rfl
@[simp] theorem divD_int (i j : Int) (st : Store) : divD (.int i) (.int j) st = okIf (divOk j) (.ok (.int (i / j)) st) := by rw [← ite_okIf]; rfl
@[simp] theorem modD_int (i j : Int) (st : Store) : modD (.int i) (.int j) st = okIf (0 < j) (.ok (.int (i % j)) st) := by rw [← ite_okIf]; rfl
@[simp] theorem intCmp_int (g : Int → Int → Bool) (i j : Int) (st : Store) : intCmp g (.int i) (.int j) st = .ok (.bl (g i j)) st := (Eq.refl _).trans rfl
@[simp] theorem seqOf_tup (ds : List D) (st : Store) : seqOf (.tup ds) st = some ds := (Eq.refl _).trans rfl
@[simp] theorem seqOf_ref (n : Nat) (st : Store) : seqOf (.ref n) st = (match st[n]? with
    | some (.lst ds) => some ds
    | some (.rol ds) => some ds
    | _ => none) := (Eq.refl _).trans rfl
@[simp] theorem lenG_eq (ds : List D) (st : Store) : lenG ds st = .ok (.int ds.length) st := (Eq.refl _).trans rfl
@[simp] theorem tupG_eq (ds : List D) (st : Store) : tupG ds st = .ok (.tup ds) st := (Eq.refl _).trans rfl
@[simp] theorem lstG_eq (ds : List D) (st : Store) : lstG ds st = .ok ds st := (Eq.refl _).trans rfl
@[simp] theorem isND_eq (x : D) (st : Store) : isND x .non st = .ok (.bl (isNonD x)) st := (Eq.refl _).trans rfl
@[simp] theorem notND_eq (x : D) (st : Store) : notND x .non st = .ok (.bl (!isNonD x)) st := (Eq.refl _).trans rfl
@[simp] theorem isNonD_non : isNonD .non = true := (Eq.refl _).trans rfl
@[simp] theorem isNonD_int (i : Int) : isNonD (.int i) = false := (Eq.refl _).trans rfl
@[simp] theorem isNonD_tup (i : List D) : isNonD (.tup i) = false := (Eq.refl _).trans rfl
@[simp] theorem isLst_ref (n : Nat) (st : Store) : isLst (.ref n) st = (match st[n]? with | some (.lst _) => true | _ => false) := (Eq.refl _).trans rfl
@[simp] theorem intG_int (i : Int) (st : Store) : intG [.int i] st = .ok (.int i) st := (Eq.refl _).trans rfl
@[simp] theorem absG_int (i : Int) (st : Store) : absG [.int i] st = .ok (.int (if i < 0 then -i else i)) st := (Eq.refl _).trans rfl
theorem getD_tup (ds : List D) (i : Int) (st : Store) : getD (.tup ds) (.int i) st = (match atI ds i with
        | some d => .ok d st
        | none => .bad) := rfl
theorem getD_ref (n : Nat) (i : Int) (st : Store) : getD (.ref n) (.int i) st = (match seqOf (.ref n) st with
      | some ds => (match atI ds i with
        | some d => .ok d st
        | none => .bad)
      | none => .bad) := rfl
@[simp] theorem asgT_name (i : Nat) (d : D) (env : AEnv) : asgT (.name i) d env = some (env.set i (some d)) := (Eq.refl _).trans rfl
@[simp] theorem asgT_tup (ts : List Tgt) (ds : List D) (env : AEnv) : asgT (.tup ts) (.tup ds) env = asgTs ts ds env := (Eq.refl _).trans rfl
@[simp] theorem asgTs_nil (env : AEnv) : asgTs [] [] env = some env := (Eq.refl _).trans rfl
@[simp] theorem asgTs_cons (t : Tgt) (ts : List Tgt) (d : D) (ds : List D) (env : AEnv) : asgTs (t :: ts) (d :: ds) env = (match asgT t d env with
    | some env' => asgTs ts ds env'
    | none => none) := (Eq.refl _).trans rfl
@[simp] theorem wipeE_nil (env : AEnv) : wipeE env [] = env := (Eq.refl _).trans rfl
@[simp] theorem wipeE_cons (env : AEnv) (v : Nat) (vs : List Nat) : wipeE env (v :: vs) = (wipeE env vs).set v none := (Eq.refl _).trans rfl
section
variable {G : GX} {st st' : Store} {env : AEnv} {n : Nat}
/-! ### calls -/
theorem trim_refl (st : Store) : Trim st st := fun i h => .inl rfl
theorem trim_app (st x : Store) : Trim st (st ++ x) := fun i h => .inl (List.getElem?_append_left h)
theorem gcR_ok {d : D} (x : Store) (h : closed st.length d = true) : gcH st (.ok d (st ++ x)) = .ok d st := by
  unfold gcH
  rw [hid_eq]
  unfold gcR
  simp [trim_app, h]
theorem gcR_same {d : D} (h : closed st.length d = true) : gcH st (.ok d st) = .ok d st := by
  have := gcR_ok (st := st) (d := d) [] h
  simpa using this
@[simp] theorem gcR_int (i : Int) : gcH st (.ok (.int i) st) = .ok (.int i) st := gcR_same rfl
@[simp] theorem gcR_bl (i : Bool) : gcH st (.ok (.bl i) st) = .ok (.bl i) st := gcR_same rfl
@[simp] theorem gcR_non : gcH st (.ok .non st) = .ok .non st := gcR_same rfl
theorem closeds_ints (n : Nat) : ∀ ns : List Int, closeds n (ns.map D.int) = true
  | [] => rfl
  | _ :: ns => by simp [closeds, closed, closeds_ints n ns]
@[simp] theorem gcR_ints (ns : List Int) : gcH st (.ok (.tup (ns.map D.int)) st) = .ok (.tup (ns.map D.int)) st := gcR_same (by simp [closed, closeds_ints])
/-- one object of the store changed -/
theorem gcR_set {d : D} {o : AO} (h : closed st.length d = true) (ho : closedO st.length o = true) : gcH st (.ok d (st.set n o)) = .ok d (st.set n o) := by
  have ht : Trim st (st.set n o) := fun i hi => by
    by_cases e : n = i
    · subst e; exact .inr ⟨o, by simp [hi], ho⟩
    · exact .inl (by simp [List.getElem?_set_ne e])
  have hk : (st.set n o).take st.length = st.set n o := List.take_of_length_le (by simp)
  unfold gcH
  rw [hid_eq]
  unfold gcR
  simp [ht, h, hk]
theorem lDrop_ok {fe : EF} {ds : List D} (e : fe env st = .ok (.ref st.length) (st ++ [.lst ds])) (h : closeds st.length ds = true) : lDrop fe env st = .ok ds st := by
  unfold lDrop
  rw [e]
  simp [trim_app, h]
theorem lDrop_gen {fe : EF} {ds : List D} {k : Nat} {x : Store} (e : fe env st = .ok (.ref k) (st ++ x)) (hk : st.length ≤ k) (h0 : (st ++ x)[k]? = some (.lst ds)) (h : closeds st.length ds = true) : lDrop fe env st = .ok ds st := by
  unfold lDrop
  rw [e]
  simp only
  rw [if_pos ⟨trim_app _ _, hk⟩, h0]
  simp [h]
/-- a call that gives a new list back -/
theorem gcR_new {ds : List D} (x y : Store) (h : closeds st.length ds = true) (k : Nat) (hk : (st ++ x)[k]? = some (.lst ds)) (hk2 : st.length ≤ k) : gcH st (.ok (.ref k) (st ++ x)) = .ok (.ref st.length) (st ++ [.lst ds]) := by
  have hc : closed st.length (.ref k) = false := by simp [closed]; omega
  unfold gcH
  rw [hid_eq]
  unfold gcR
  simp [trim_app, hc, hk, closedO, h]
/-! ### loops -/
theorem loopF_inv {t : Tgt} {body : SF} {g : Its} {ds : List D} (I : Nat → AEnv → Store → Prop)
    (hs : ∀ i d env st, I i env st → ds[i]? = some d → ∃ env1, asgT t d env = some env1 ∧ ∃ e s, (body env1 st = .next e s ∨ body env1 st = .cont e s) ∧ gOK g s ∧ I (i + 1) e s)
    (h0 : I 0 env st) : ∃ e s, loopF t body g ds env st = .next e s ∧ I ds.length e s := by
  have key : ∀ (r : List D) (i : Nat), ds.drop i = r → i + r.length = ds.length → ∀ env st, I i env st → ∃ e s, loopF t body g r env st = .next e s ∧ I ds.length e s := by
    intro r
    induction r with
    | nil =>
      intro i hd hl env st hi
      have e : i = ds.length := by simpa using hl
      exact ⟨env, st, by simp [loopF], e ▸ hi⟩
    | cons d r ih =>
      intro i hd hl env st hi
      have hd0 : ds[i]? = some d := by
        have : (ds.drop i)[0]? = some d := by rw [hd]; rfl
        simpa using this
      obtain ⟨env1, ea, e, s, hb, hg, hI⟩ := hs i d env st hi hd0
      obtain ⟨e', s', h1, h2⟩ := ih (i + 1) (by rw [← List.drop_drop, hd]; rfl) (by simp at hl; omega) e s hI
      refine ⟨e', s', ?_, h2⟩
      rcases hb with hb | hb
      · simp [loopF, ea, hb, hg, h1]
      · simp [loopF, ea, hb, hg, h1]
  exact key ds 0 rfl (by simp) env st h0
theorem loopF_next {t : Tgt} {body : SF} {g : Its} {ds : List D} {r : RS} (hr : loopF t body g ds env st = r) (I : Nat → AEnv → Store → Prop) (h0 : I 0 env st)
    (hs : ∀ i d env st, I i env st → ds[i]? = some d → ∃ env1, asgT t d env = some env1 ∧ ∃ e s, (body env1 st = .next e s ∨ body env1 st = .cont e s) ∧ gOK g s ∧ I (i + 1) e s) : ∃ e s, r = .next e s ∧ I ds.length e s := by
  subst hr
  exact loopF_inv I hs h0
open Classical in
@[simp] theorem sFor_ap (t : Tgt) (fi : IF) (body : SF) (e_ : AEnv) (st_ : Store) : sFor t fi body e_ st_ = sOf (fi e_ st_) e_ fun g st1 => if gOK g st1 then loopF t body g g.1 e_ st1 else .bad := by
  unfold sFor
  rfl
theorem compL_inv {t : Tgt} {c : BF} {elt : EF} {g : Its} {ds : List D} (I : Nat → List D → Store → Prop)
    (hs : ∀ i d acc st, I i acc st → ds[i]? = some d → ∃ env1, asgT t d env = some env1 ∧ ((∃ y s1 s2, c env1 st = .ok true s1 ∧ elt env1 s1 = .ok y s2 ∧ gOK g s2 ∧ I (i + 1) (acc ++ [y]) s2) ∨ ∃ s1, c env1 st = .ok false s1 ∧ gOK g s1 ∧ I (i + 1) acc s1))
    (h0 : I 0 [] st) : ∃ ys s, compL t c elt g ds env st = .ok ys s ∧ I ds.length ys s := by
  have key : ∀ (r : List D) (i : Nat), ds.drop i = r → i + r.length = ds.length → ∀ acc st, I i acc st → ∃ ys s, compL t c elt g r env st = .ok ys s ∧ I ds.length (acc ++ ys) s := by
    intro r
    induction r with
    | nil =>
      intro i hd hl acc st hi
      have e : i = ds.length := by simpa using hl
      exact ⟨[], st, by simp [compL], by simpa using e ▸ hi⟩
    | cons d r ih =>
      intro i hd hl acc st hi
      have hd0 : ds[i]? = some d := by
        have : (ds.drop i)[0]? = some d := by rw [hd]; rfl
        simpa using this
      obtain ⟨env1, ea, hb⟩ := hs i d acc st hi hd0
      rcases hb with ⟨y, s1, s2, h1, h2, hg, hI⟩ | ⟨s1, h1, hg, hI⟩
      · obtain ⟨ys, s', h3, h4⟩ := ih (i + 1) (by rw [← List.drop_drop, hd]; rfl) (by simp at hl; omega) _ s2 hI
        exact ⟨y :: ys, s', by simp [compL, ea, h1, h2, hg, h3], by simpa using h4⟩
      · obtain ⟨ys, s', h3, h4⟩ := ih (i + 1) (by rw [← List.drop_drop, hd]; rfl) (by simp at hl; omega) _ s1 hI
        exact ⟨ys, s', by simp [compL, ea, h1, hg, h3], h4⟩
  obtain ⟨ys, s, h1, h2⟩ := key ds 0 rfl (by simp) [] st h0
  exact ⟨ys, s, h1, by simpa using h2⟩
theorem compL_map {t : Tgt} {c : BF} {elt : EF} {g : Its} (p : D → Bool) (f : D → D) (hg : gOK g st) : ∀ ds : List D,
    (∀ d ∈ ds, ∃ env1, asgT t d env = some env1 ∧ c env1 st = .ok (p d) st ∧ (p d = true → elt env1 st = .ok (f d) st)) → compL t c elt g ds env st = .ok ((ds.filter p).map f) st
  | [], _ => by simp [compL]
  | d :: ds, h => by
    obtain ⟨env1, h1, h2, h3⟩ := h d List.mem_cons_self
    have ih := compL_map (t := t) (c := c) (elt := elt) p f hg ds fun x hx => h x (List.mem_cons_of_mem _ hx)
    cases q : p d with
    | true => simp [compL, h1, h2, q, h3 q, hg, ih]
    | false => simp [compL, h1, h2, q, hg, ih]
theorem compL_ok {t : Tgt} {c : BF} {elt : EF} {g : Its} {ds : List D} {r : R (List D)} (hr : compL t c elt g ds env st = r) (I : Nat → List D → Store → Prop) (h0 : I 0 [] st)
    (hs : ∀ i d acc st, I i acc st → ds[i]? = some d → ∃ env1, asgT t d env = some env1 ∧ ((∃ y s1 s2, c env1 st = .ok true s1 ∧ elt env1 s1 = .ok y s2 ∧ gOK g s2 ∧ I (i + 1) (acc ++ [y]) s2) ∨ ∃ s1, c env1 st = .ok false s1 ∧ gOK g s1 ∧ I (i + 1) acc s1)) :
    ∃ ys s, r = .ok ys s ∧ I ds.length ys s := by
  subst hr
  exact compL_inv I hs h0
theorem compL_mapE {t : Tgt} {c : BF} {elt : EF} {g : Its} {ds : List D} {r : R (List D)} (hr : compL t c elt g ds env st = r) (hg : gOK g st) (p : D → Bool) (f : D → D)
    (h : ∀ d ∈ ds, ∃ env1, asgT t d env = some env1 ∧ c env1 st = .ok (p d) st ∧ (p d = true → elt env1 st = .ok (f d) st)) : r = .ok ((ds.filter p).map f) st := by
  subst hr
  exact compL_map p f hg ds h
open Classical in
@[simp] theorem compF_ap (vs : List Nat) (fi : IF) (t : Tgt) (c : BF) (elt : EF) (e_ : AEnv) (st_ : Store) :
    compF vs fi t c elt e_ st_ = (fi e_ st_).bind fun g st1 => okIf (gOK g st1 ∧ g.1.length ≤ sizeLine) (noX (compL t c elt g g.1 (wipeE e_ vs) st1)) := by
  unfold compF
  simp only [ite_okIf]
@[simp] theorem rangeD_lenS (lo : Int) (n : Nat) : (rangeD lo n).length = n := by simp [rangeD]
theorem rangeD_mem {lo : Int} {n : Nat} {d : D} (h : d ∈ rangeD lo n) : ∃ i, i < n ∧ d = .int (lo + i) := by
  unfold rangeD at h
  obtain ⟨i, h1, h2⟩ := List.mem_map.mp h
  exact ⟨i, List.mem_range.mp h1, h2.symm⟩
theorem szl {n : Nat} (h : n ≤ 1000000) : n ≤ sizeLine := Nat.le_trans h (by decide)
/-! ### comparing -/
mutual
/-- no list, no instance in it -/
def plainD : Nat → D → Bool
  | _, .non => true
  | _, .bl _ => true
  | _, .int _ => true
  | _, .str _ => true
  | 0, .tup _ => false
  | k + 1, .tup ds => plainDs k ds
  | _, .ref _ => false
  | _, .cls _ => false
def plainDs : Nat → List D → Bool
  | _, [] => true
  | k, d :: ds => plainD k d && plainDs k ds
end
def pyI (ns : List Int) : List PyData := ns.map PyData.int
theorem toPws_ints (f : Nat → Option PyData) : ∀ ns : List Int, toPws f (ns.map D.int) = some (pyI ns)
  | [] => rfl
  | n :: ns => by simp [toPws, toPw, toPws_ints f ns, pyI]
theorem toP_int (i : Int) : toP st 50 (.int i) = some (.int i) := rfl
theorem toP_bl (i : Bool) : toP st 50 (.bl i) = some (.bool i) := rfl
theorem toP_ints (ns : List Int) : toP st 50 (.tup (ns.map D.int)) = some (.tuple (pyI ns)) := by
  show (toPws _ (ns.map D.int)).map PyData.tuple = _
  rw [toPws_ints]; rfl
theorem shaped_int (i : Int) : SeqAt.shaped (.int i) = true := rfl
theorem shaped_bl (i : Bool) : SeqAt.shaped (.bool i) = true := rfl
theorem beq_dec (i j : Int) : (i == j) = decide (i = j) := by
  by_cases h : i = j <;> simp [h]
@[simp] theorem eqD_int (i j : Int) : eqD (.int i) (.int j) st = .ok (.bl (decide (i = j))) st := by
  unfold eqD eqP
  rw [toP_int, toP_int]
  simp [shaped_int, PyData.eqv, beq_dec]
@[simp] theorem neD_int (i j : Int) : neD (.int i) (.int j) st = .ok (.bl (decide (i ≠ j))) st := by
  unfold neD eqP
  rw [toP_int, toP_int]
  simp [shaped_int, PyData.eqv, beq_dec]
@[simp] theorem eqD_bl (i j : Bool) : eqD (.bl i) (.bl j) st = .ok (.bl (i == j)) st := by
  unfold eqD eqP
  rw [toP_bl, toP_bl]
  simp [shaped_bl, PyData.eqv, beq_dec]
@[simp] theorem neD_bl (i j : Bool) : neD (.bl i) (.bl j) st = .ok (.bl (i != j)) st := by
  unfold neD eqP
  rw [toP_bl, toP_bl]
  simp [shaped_bl, PyData.eqv, beq_dec]
  cases i <;> cases j <;> rfl
theorem getD_at {ds : List D} {k : Nat} {d : D} (h : ds[k]? = some d) : getD (.tup ds) (.int (k : Int)) st = .ok d st := by
  rw [getD_tup, atI_nat h]
theorem getq {xs : List Int} {i : Nat} {d : D} (h : (xs.map D.int)[i]? = some d) : ∃ x, d = .int x ∧ xs[i]? = some x ∧ xs.drop i = x :: xs.drop (i + 1) := by
  rw [List.getElem?_map] at h
  cases q : xs[i]? with
  | none => rw [q] at h; cases h
  | some x =>
    rw [q] at h
    cases h
    obtain ⟨hi, e⟩ := List.getElem?_eq_some_iff.mp q
    exact ⟨x, rfl, rfl, by rw [List.drop_eq_getElem_cons hi, e]⟩
theorem getD_i {xs : List Int} {k : Nat} {j : Int} (e : j = k) (h : k < xs.length) : getD (.tup (xs.map D.int)) (.int j) st = .ok (.int (xs.getD k 0)) st := by
  subst e
  refine getD_at ?_
  rw [List.getElem?_map, List.getElem?_eq_getElem h, List.getD_eq_getElem?_getD, List.getElem?_eq_getElem h]
  rfl
theorem getD_l {xs : List Int} {n : Nat} (h : xs.length = n + 1) : getD (.tup (xs.map D.int)) (.int (-1)) st = .ok (.int (xs.getD n 0)) st := by
  obtain ⟨ys, y, rfl⟩ : ∃ ys y, xs = ys ++ [y] := ⟨xs.dropLast, xs.getLast (by intro z; rw [z] at h; cases h), (List.dropLast_concat_getLast _).symm⟩
  have hn : n = ys.length := by simp at h; omega
  subst hn
  rw [getD_tup, List.map_append, List.map_singleton, atI_last]
  simp
theorem map_true (f : D → D) (l : List D) : (l.filter fun d => true).map f = l.map f := by rw [List.filter_eq_self.mpr (fun _ _ => rfl)]
theorem filter_ints (p : Int → Bool) (q : D → Bool) (h : ∀ i, q (.int i) = p i) : ∀ xs : List Int, (xs.map D.int).filter q = (xs.filter p).map D.int
  | [] => rfl
  | x :: xs => by
    have ih := filter_ints p q h xs
    simp only [List.map_cons, List.filter_cons, h, ih]
    by_cases e : p x = true <;> simp [e]
def ltI (d : D) (b : D) : Bool := match d, b with | .int i, .int j => decide (i < j) | _, _ => false
def intOf (d : D) : Int := match d with | .int i => i | _ => 0
theorem depthAll_ints : ∀ ns : List Int, PyData.depthAll (pyI ns) = 0
  | [] => rfl
  | n :: ns => by
    show max _ (PyData.depthAll (pyI ns)) = 0
    rw [depthAll_ints ns]; rfl
theorem canLay_ints : ∀ ns : List Int, PyData.canLayAll0 (pyI ns) = true
  | [] => rfl
  | n :: ns => by
    show (_ && PyData.canLayAll0 (pyI ns)) = true
    rw [canLay_ints ns]; rfl
theorem shaped_ints (ns : List Int) : SeqAt.shaped (.tuple (pyI ns)) = true := by
  unfold SeqAt.shaped
  have h1 : (PyData.tuple (pyI ns)).canLay0 = true := canLay_ints ns
  have h2 : (PyData.tuple (pyI ns)).depth ≤ 64 := by
    show PyData.depthAll (pyI ns) + 1 ≤ 64
    rw [depthAll_ints]; decide
  simp [h1, h2]
theorem eqv_ints : ∀ xs ys : List Int, PyData.eqvAll (pyI xs) (pyI ys) = decide (xs = ys)
  | [], [] => by simp [pyI, PyData.eqvAll]
  | [], _ :: _ => by simp [pyI, PyData.eqvAll]
  | _ :: _, [] => by simp [pyI, PyData.eqvAll]
  | x :: xs, y :: ys => by
    have ih := eqv_ints xs ys
    show (PyData.eqv (.int x) (.int y) && PyData.eqvAll (pyI xs) (pyI ys)) = _
    rw [ih]
    simp [PyData.eqv, beq_dec]
@[simp] theorem eqD_ints (xs ys : List Int) : eqD (.tup (xs.map D.int)) (.tup (ys.map D.int)) st = .ok (.bl (decide (xs = ys))) st := by
  unfold eqD eqP
  rw [toP_ints, toP_ints]
  simp only [shaped_ints, and_self, if_true]
  show R.ok (D.bl (PyData.eqvAll (pyI xs) (pyI ys))) st = _
  rw [eqv_ints]
end
end TK

set_option Elab.async false
set_option linter.all false
set_option maxRecDepth 100000
set_option maxHeartbeats 4000000
namespace TK
open PySem PySem.Spec
open PyProof.Rows hiding St
open L2
/-! # one step of the newer plain functions -/
@[simp] theorem sPar_ap (i j : Nat) (fl : LF) (env : AEnv) (st : Store) : sPar i j fl env st = (sOf (fl env st) env fun ds st1 => match ds with
  | [x, y] => .next ((env.set i (some x)).set j (some y)) st1
  | _ => .bad) := (Eq.refl _).trans rfl
@[simp] theorem sSub2_ap (fo fi fo' fi' fe : EF) (env : AEnv) (st : Store) : sSub2 fo fi fo' fi' fe env st = (sOf (fe env st) env fun d st1 => match d with
  | .tup [y, y'] => sThen (sSub fo fi (eC y) env st1) (sSub fo' fi' (eC y'))
  | _ => .bad) := (Eq.refl _).trans rfl
@[simp] theorem lRep_ap (fl : LF) (fe : EF) (env : AEnv) (st : Store) : lRep fl fe env st = ((fl env st).bind fun xs st1 => (fe env st1).bind fun d st2 => match d with
  | .int k => okIf (-1000000 ≤ k ∧ k ≤ 1000000 ∧ xs.length * k.toNat ≤ sizeLine) (.ok (List.replicate k.toNat xs).flatten st2)
  | _ => .bad) := by first | (simp only [lRep, ite_okIf]; done) | (simp only [lRep, ite_okIf]; rfl)
@[simp] theorem lRng2_ap (fe fe' : EF) (env : AEnv) (st : Store) : lRng2 fe fe' env st = ((fe env st).bind fun d st1 => (fe' env st1).bind fun d' st2 => match d, d' with
  | .int i, .int j => okIf (rgOk i j) (.ok (rangeD i (j - i).toNat) st2)
  | _, _ => .bad) := by first | (simp only [lRng2, hid_eq, ite_okIf]; done) | (simp only [lRng2, hid_eq, ite_okIf]; rfl)
@[simp] theorem sAug_ap (i : Nat) (g : Int → Int → Int) (fe : EF) (env : AEnv) (st : Store) : sAug i g (fun _ _ => True) fe env st = (match env[i]? with
  | some (some (.int x)) => sOf (fe env st) env fun d st1 => match d with
    | .int y => .next (env.set i (some (.int (g x y)))) st1
    | _ => .bad
  | _ => .bad) := (Eq.refl _).trans rfl
@[simp] theorem isBD_bl (i j : Bool) (st : Store) : isBD (.bl i) (.bl j) st = .ok (.bl (decide (i = j))) st := (Eq.refl _).trans rfl
@[simp] theorem nisBD_bl (i j : Bool) (st : Store) : nisBD (.bl i) (.bl j) st = .ok (.bl (!decide (i = j))) st := (Eq.refl _).trans rfl
variable {st : Store}
theorem toP_str (i : Str) : toP st 50 (.str i) = some (.str i) := rfl
theorem shaped_str {i : Str} (h : PyData.canLay0 (.str i) = true) : SeqAt.shaped (.str i) = true := by
  unfold SeqAt.shaped
  rw [h]; rfl
theorem eqD_str {i j : Str} (hi : PyData.canLay0 (.str i) = true) (hj : PyData.canLay0 (.str j) = true) : eqD (.str i) (.str j) st = .ok (.bl (i == j)) st := by
  unfold eqD eqP
  rw [toP_str, toP_str]
  simp [shaped_str hi, shaped_str hj, PyData.eqv]
theorem neD_str {i j : Str} (hi : PyData.canLay0 (.str i) = true) (hj : PyData.canLay0 (.str j) = true) : neD (.str i) (.str j) st = .ok (.bl (!(i == j))) st := by
  unfold neD eqP
  rw [toP_str, toP_str]
  simp [shaped_str hi, shaped_str hj, PyData.eqv]
/-- a side: left or right -/
def sdS (l : Bool) : Str := if l then "left" else "right"
def sdD (l : Bool) : D := .str (sdS l)
theorem sd_lay (l : Bool) : PyData.canLay0 (.str (sdS l)) = true := by cases l <;> decide +kernel
theorem sd_eq (l m : Bool) : (sdS l == sdS m) = (l == m) := by cases l <;> cases m <;> decide +kernel
theorem eqD_sd (l m : Bool) : eqD (sdD l) (sdD m) st = .ok (.bl (l == m)) st := by
  unfold sdD
  rw [eqD_str (sd_lay l) (sd_lay m), sd_eq]
theorem neD_sd (l m : Bool) : neD (sdD l) (sdD m) st = .ok (.bl (l != m)) st := by
  unfold sdD
  rw [neD_str (sd_lay l) (sd_lay m), sd_eq]
  rfl
theorem eqD_left (l : Bool) : eqD (sdD l) (.str "left") st = .ok (.bl l) st := by
  have := eqD_sd (st := st) l true
  have e : (l == true) = l := by cases l <;> rfl
  rw [e] at this
  exact this
theorem inD2_tup {x : D} {ds : List D} (h : flatD x = true) (hs : ds.all flatD = true) : inD2 x (.tup ds) st = .ok (.bl (inV (flV x) (ds.map flV))) st := by
  unfold inD2 inT
  simp only [h, hs, and_self, if_true]
theorem inD2_ref {x : D} {n : Nat} : inD2 x (.ref n) st = inD x (.ref n) st := rfl
/-! ### flags -/
def pyB (fs : List Bool) : List PyData := fs.map PyData.bool
theorem toPws_bls (f : Nat → Option PyData) : ∀ ns : List Bool, toPws f (ns.map D.bl) = some (pyB ns)
  | [] => rfl
  | n :: ns => by simp [toPws, toPw, toPws_bls f ns, pyB]
theorem toPw_bls (f : Nat → Option PyData) (ns : List Bool) : toPw f (.tup (ns.map D.bl)) = some (.tuple (pyB ns)) := by
  show (toPws _ (ns.map D.bl)).map PyData.tuple = _
  rw [toPws_bls]; rfl
theorem toP_bls (ns : List Bool) : ∀ k, toP st k (.tup (ns.map D.bl)) = some (.tuple (pyB ns))
  | 0 => toPw_bls _ ns
  | k + 1 => toPw_bls _ ns
theorem depthAll_bls : ∀ ns : List Bool, PyData.depthAll (pyB ns) = 0
  | [] => rfl
  | n :: ns => by
    show max _ (PyData.depthAll (pyB ns)) = 0
    rw [depthAll_bls ns]; rfl
theorem canLay_bls : ∀ ns : List Bool, PyData.canLayAll0 (pyB ns) = true
  | [] => rfl
  | n :: ns => by
    show (_ && PyData.canLayAll0 (pyB ns)) = true
    rw [canLay_bls ns]; rfl
theorem shaped_bls (ns : List Bool) : SeqAt.shaped (.tuple (pyB ns)) = true := by
  unfold SeqAt.shaped
  have h1 : (PyData.tuple (pyB ns)).canLay0 = true := canLay_bls ns
  have h2 : (PyData.tuple (pyB ns)).depth ≤ 64 := by
    show PyData.depthAll (pyB ns) + 1 ≤ 64
    rw [depthAll_bls]; decide
  simp [h1, h2]
theorem eqv_bls : ∀ xs ys : List Bool, PyData.eqvAll (pyB xs) (pyB ys) = decide (xs = ys)
  | [], [] => by simp [pyB, PyData.eqvAll]
  | [], _ :: _ => by simp [pyB, PyData.eqvAll]
  | _ :: _, [] => by simp [pyB, PyData.eqvAll]
  | x :: xs, y :: ys => by
    have ih := eqv_bls xs ys
    show (PyData.eqv (.bool x) (.bool y) && PyData.eqvAll (pyB xs) (pyB ys)) = _
    rw [ih]
    have e : PyData.eqv (.bool x) (.bool y) = decide (x = y) := by cases x <;> cases y <;> rfl
    simp [e]
@[simp] theorem eqD_bls (xs ys : List Bool) : eqD (.tup (xs.map D.bl)) (.tup (ys.map D.bl)) st = .ok (.bl (decide (xs = ys))) st := by
  unfold eqD eqP
  rw [toP_bls, toP_bls]
  simp only [shaped_bls, and_self, if_true]
  show R.ok (D.bl (PyData.eqvAll (pyB xs) (pyB ys))) st = _
  rw [eqv_bls]
theorem mapM_bls {f : D → Option PyData} (h : ∀ fs : List Bool, f (.tup (fs.map D.bl)) = some (.tuple (pyB fs))) : ∀ L : List (List Bool), (L.map fun fs => D.tup (fs.map D.bl)).mapM f = some (L.map fun fs => PyData.tuple (pyB fs))
  | [] => rfl
  | x :: xs => by
    rw [List.map_cons, List.mapM_cons, h, mapM_bls h xs]
    rfl
theorem depthAll_blss : ∀ L : List (List Bool), PyData.depthAll (L.map fun fs => PyData.tuple (pyB fs)) ≤ 1
  | [] => Nat.zero_le _
  | x :: L => by
    show max (PyData.depthAll (pyB x) + 1) (PyData.depthAll (L.map fun fs => PyData.tuple (pyB fs))) ≤ 1
    rw [depthAll_bls]
    exact Nat.max_le.mpr ⟨Nat.le_refl _, depthAll_blss L⟩
theorem canLay_blss : ∀ L : List (List Bool), PyData.canLayAll0 (L.map fun fs => PyData.tuple (pyB fs)) = true
  | [] => rfl
  | x :: L => by
    show (PyData.canLayAll0 (pyB x) && PyData.canLayAll0 (L.map fun fs => PyData.tuple (pyB fs))) = true
    rw [canLay_bls, canLay_blss L]; rfl
theorem shaped_blss (L : List (List Bool)) : SeqAt.shaped (.list (L.map fun fs => PyData.tuple (pyB fs))) = true := by
  unfold SeqAt.shaped
  have h1 : (PyData.list (L.map fun fs => PyData.tuple (pyB fs))).canLay0 = true := canLay_blss L
  have h2 : (PyData.list (L.map fun fs => PyData.tuple (pyB fs))).depth ≤ 64 := by
    show PyData.depthAll (L.map fun fs => PyData.tuple (pyB fs)) + 1 ≤ 64
    have := depthAll_blss L
    omega
  simp [h1, h2]
theorem any_bls (fs : List Bool) : ∀ L : List (List Bool), ((L.map fun fs => PyData.tuple (pyB fs)).any fun z => PyData.eqv z (.tuple (pyB fs))) = decide (fs ∈ L)
  | [] => by simp
  | x :: L => by
    rw [List.map_cons, List.any_cons, any_bls fs L]
    show (PyData.eqvAll (pyB x) (pyB fs) || _) = _
    rw [eqv_bls]
    by_cases c : x = fs
    · subst c; simp
    · have c' : ¬ fs = x := fun z => c z.symm
      simp [c, c']
/-- flags in a list of tuples of flags -/
theorem in_bls {n : Nat} {fs : List Bool} {L : List (List Bool)} (h : st[n]? = some (.lst (L.map fun fs => D.tup (fs.map D.bl)))) : inD2 (.tup (fs.map D.bl)) (.ref n) st = .ok (.bl (decide (fs ∈ L))) st := by
  rw [inD2_ref]
  have e : toP st 50 (.ref n) = some (.list (L.map fun fs => PyData.tuple (pyB fs))) := by
    show (match seqOf (.ref n) st with
      | some ds => (ds.mapM (toP st 49)).map PyData.list
      | none => none) = _
    rw [seqOf_ref, h]
    simp only [mapM_bls (f := toP st 49) (fun fs => toP_bls fs 49) L]
    rfl
  unfold inD inP
  rw [e, toP_bls]
  simp only [shaped_bls, shaped_blss, and_self, if_true]
  rw [any_bls]
end TK

set_option Elab.async false
set_option linter.all false
set_option maxRecDepth 100000
set_option maxHeartbeats 4000000
namespace TK
open PySem PySem.Spec
open PyProof.Rows hiding St
open L2
/-! ## list(range(i, j, -1)) -/
def rgDn (i j : Int) : List V := (List.range (i - j).toNat).map fun (k : Nat) => V.int (i + (k : Int) * (-1))
theorem rgDn_length (i j : Int) : (rgDn i j).length = (i - j).toNat := by unfold rgDn; rw [List.length_map, List.length_range]
theorem vals_dn {i j : Int} {acc : Array Value} (h : ItemsOf (fun k v => ∃ t, v = .int (i + k * (-1)) t) acc (i - j).toNat) : Vals (rgDn i j) acc.toList := by
  have e : acc.toList.length = (i - j).toNat := by rw [Array.length_toList]; exact h.1
  unfold rgDn
  rw [← e]
  refine vals_of_get acc.toList _ fun k u hk => ?_
  obtain ⟨t, rfl⟩ := h.2 k u (by rw [← hk, Array.getElem?_toList])
  exact ⟨t, rfl⟩
def dnOk (i j c : Int) : Prop := c = -1 ∧ -(2 ^ 62) ≤ i ∧ i < 2 ^ 62 ∧ -(2 ^ 62) ≤ j ∧ j < 2 ^ 62 ∧ (i - j).toNat ≤ 2 ^ 24
instance (i j c : Int) : Decidable (dnOk i j c) := by unfold dnOk; infer_instance
def tLstR3 (ta : TA) : TE := fun σ H Q => ta σ H fun vs H1 => ∃ (i j c : Int), vs = [.int i, .int j, .int c] ∧ dnOk i j c ∧ ∀ q, H1 q = none → Q (.ref q) (upd H1 q (.lst (rgDn i j)))
section
variable {X : Cx} {a b c : Expr} {ta : TA}
theorem pe_listRg3 {p p2 pos pos2 : Pos} (hc : X.calm = true) (hg : Gl X "list") (hm : X.mg "list" = none) (hg2 : Gl X "range") (hm2 : X.mg "range" = none) (ha : PA X [a, b, c] ta)
    (hs : starEach [a, b, c] X.env = (false, eval a X.env) :: starEach [b, c] X.env := by rfl) (hpl : (backTo pos2 (starEach [b, c] X.env)).any (·.1) = false := by rfl)
    (na : starEach [.Call (.Name "range" p2) [a, b, c] [] pos2] X.env = (false, eval (.Call (.Name "range" p2) [a, b, c] [] pos2) X.env) :: starEach [] X.env := by rfl) :
    PE X (.Call (.Name "list" p) [.Call (.Name "range" p2) [a, b, c] [] pos2] [] pos) (tLstR3 ta) := by
  refine ⟨fun pins s σ H Q I h => ?_⟩
  have he : wpAny (model X.prog X.w) X.A (eval (.Call (.Name "range" p2) [a, b, c] [] pos2) X.env) (fun x s' => ∃ r i j k t t' t'' H', x = .ref r ∧ IsRange s'.heap r i j k t t' t'' ∧ Inv X pins σ H' s' ∧ dnOk i j k ∧ ∀ q, H' q = none → Q (.ref q) (upd H' q (.lst (rgDn i j)))) X.xe s := by
    refine Call_ (ld_blt I hg2 hm2 boot_range (PyProof.Rows.callWith_type1 (thn (ha.run pos2 pins s σ H _ I h) fun us s1 ⟨vs, H1, I1, r1, q1⟩ => ?_) hs hpl))
    obtain ⟨i, j, k, e, ok, q⟩ := q1
    subst e
    cases r1 with
    | cons r rr =>
      cases rr with
      | cons r' rr =>
        cases rr with
        | cons r'' rr =>
          cases rr
          obtain ⟨t, rfl⟩ := r
          obtain ⟨t', rfl⟩ := r'
          obtain ⟨t'', rfl⟩ := r''
          have k1 : k = -1 := ok.1
          have c0 : k ≠ 0 := by omega
          have c1 : k.natAbs < 1073741824 := by omega
          refine call_range_3 c0 ?_ (.inl (PyProof.noPylong_small c1))
          exact ⟨_, i, j, k, _, _, _, H1, rfl, IsRange.new _ _ _ _ _ _ _, I1.kept (t' := s1.toks) fun b o e => Heap.get?_push_of_some _ e, ok, q⟩
  refine Call_ (ld_blt I hg hm boot_list (PyProof.Rows.callWith_type1 (args_cons (thn he fun x s1 ⟨r, i, j, k, t, u, v, H1, ex, hr, I1, ok, q⟩ => args_nil ?_) na) na))
  subst ex
  obtain ⟨rfl, b1, b2, b3, b4, b5⟩ := ok
  refine call_list_range (n := (i - j).toNat) (I1.ok.hd hc) hr (PySem.W.small_down b1 b2 b3 b4) (PySem.W.rangeSize_downNat i j) b5 fun h' tk acc c' hk e' hi => ?_
  refine ⟨.ref s1.heap.objs.size, upd H1 s1.heap.objs.size (.lst (rgDn i j)), I1.laid hk (Nat.le_refl _) (show ObjOk X.prog X.w _ _ _ (.lst (rgDn i j)) from ⟨?_, acc.toList, c', vals_dn hi, ?_⟩), rfl, q _ (I1.hok.fresh (Nat.le_refl _))⟩
  · rw [rgDn_length, sizeLine_eq]; omega
  · rw [Array.toArray_toList]; exact e'
end
theorem dnRel {G : GX} {μ : List Addr} {H : Hp} (i j : Int) : RelDs G μ H (rangeS i (-1) (i - j).toNat) (rgDn i j) := by
  refine .of_all (by rw [rgDn_length, rangeS_len]) fun k d v e1 e2 => ?_
  rw [rangeS_get] at e1
  split at e1
  · rename_i hk
    cases e1
    unfold rgDn at e2
    rw [List.getElem?_map, List.getElem?_range hk] at e2
    cases e2
    rfl
  · cases e1
noncomputable def lRng3 (fa : LF) : LF := fun env st => (fa env st).bind fun ds st1 => match ds with
  | [.int i, .int j, .int c] => hid (if dnOk i j c then .ok (rangeS i (-1) (i - j).toNat) st1 else .bad)
  | _ => .bad
section
variable {X : Cx} {W : WX} {a b c : Expr} {fa : LF} {pos : Pos} {lv : Nat}
theorem al_listRng3 {p p2 pos2 : Pos} (cx : Ctx X W lv) (hm : X.mg "list" = none) (hm2 : X.mg "range" = none) (ha : AA X W [a, b, c] fa) (hg : Gl X "list" := by rfl) (hg2 : Gl X "range" := by rfl)
    (hs : starEach [a, b, c] X.env = (false, eval a X.env) :: starEach [b, c] X.env := by rfl) (hpl : (backTo pos2 (starEach [b, c] X.env)).any (·.1) = false := by rfl)
    (na : starEach [.Call (.Name "range" p2) [a, b, c] [] pos2] X.env = (false, eval (.Call (.Name "range" p2) [a, b, c] [] pos2) X.env) :: starEach [] X.env := by rfl) :
    AL X W (.Call (.Name "list" p) [.Call (.Name "range" p2) [a, b, c] [] pos2] [] pos) (lRng3 fa) := (pe_listRg3 cx.calm hg hm hg2 hm2 ha hs hpl na).weak fun σ H Q ⟨μ, env, st, hs, er, q⟩ =>
    ⟨μ, env, st, hs, er, Post.bind q fun ds st1 μ1 H1 vs eq x1 hs1 rs p1 => by
      split at p1
      · rename_i i j k
        obtain ⟨v, rest, rfl, rd, v2, rest2, rfl, rd2, v3, rest3, rfl, rd3, e0⟩ := rs
        cases e0; cases rd; cases rd2; cases rd3
        rw [hid_eq] at p1
        split at p1
        · rename_i h
          exact ⟨i, j, k, rfl, h, fun l hl => p1 μ1 _ _ (.new hl) (hs1.new hl) ⟨l, _, rfl, hl, hs1.fresh hl, upd_same, dnRel _ _⟩⟩
        · exact p1.elim
      · exact p1.elim⟩
end
@[simp] theorem lRng3_ap (fa : LF) (env : AEnv) (st : Store) : lRng3 fa env st = ((fa env st).bind fun ds st1 => match ds with
  | [.int i, .int j, .int c] => okIf (dnOk i j c) (.ok (rangeS i (-1) (i - j).toNat) st1)
  | _ => .bad) := by first | (simp only [lRng3, hid_eq, ite_okIf]; done) | (simp only [lRng3, hid_eq, ite_okIf]; rfl)
end TK

set_option Elab.async false
set_option linter.all false
set_option maxRecDepth 100000
set_option maxHeartbeats 4000000
namespace TK
open PySem PySem.Spec
open PyProof.Rows hiding St
open L2
/-! ## an empty dict -/
def eDct0 : EF := fun _ st => .ok (.ref st.length) (st ++ [.dct []])
section
variable {X : Cx} {W : WX} {e : Expr} {fe : EF} {pos pos' : Pos} {lv : Nat}
theorem ae_dct0 : AE X W (.Dict [] [] pos) eDct0 := pe_dnewK.weak fun σ H Q ⟨μ, env, st, hs, er, p⟩ => fun q hq => by
  have hn : q ∉ μ := hs.fresh hq
  refine p (μ ++ [q]) (upd H q (.dK [])) _ ((Ext.new hq).adopt hq hn) ((hs.new hq).adopt upd_same hn ⟨[], rfl, rfl⟩) ⟨q, ?_, rfl⟩
  rw [← hs.len, List.getElem?_append_right (Nat.le_refl _)]; simp
end
/-! ## isinstance of built-in kinds, asked of instances too -/
structure InsG (G : GX) (c : Str) : Prop where
  ex : ∃ C, G.mg c = some (.ref C) ∧ Cls G.K C ∧ PySem.W.findIn G.K (.ref C) "__class__" = some (some (.builtin "object.__class__")) ∧ PySem.W.specialIn G.K (.builtin "object.__class__") "__get__" = some (some (.builtin "getset_descriptor.__get__")) ∧
    PySem.W.takesIn G.K (.builtin "object.__class__") = some true ∧ PySem.W.mroIn G.K C (.type "object") = some true ∧ ∀ T ∈ tysAll, PySem.W.kitOne G.K (.ref C) (.type T) = some false
def eIsiO (c : Str) (T : String) (fe : EF) : EF := fun env st => (fe env st).bind fun d st1 => match kindD d st1 with
  | some k => .ok (.bl (subT [T] k)) st1
  | none => match d with
    | .ref n => (match st1[n]? with
      | some (.ins c1 _) => if c1 = c then .ok (.bl false) st1 else .bad
      | _ => .bad)
    | _ => .bad
section
variable {X : Cx} {W : WX} {e : Expr} {fe : EF} {pos pos' : Pos} {lv : Nat}
theorem ae_isiO {p p2 : Pos} {x c : Str} (T : String) (J : InsG (gx X) c) (hm : X.mg "isinstance" = none) (ha : AE X W e fe) (hg : Gl X "isinstance" := by rfl) (hx : Gl X x := by rfl) (hmx : X.mg x = none) (hv : bootBuiltins x = some (.type T) := by decide +kernel) (hT : T ∈ tysAll := by decide)
    (hn : x ≠ "__name__" := by decide) (hd : (x == ("__debug__" : Str)) = false := by decide)
    (he : starEach [e, .Name x p2] X.env = (false, eval e X.env) :: starEach [.Name x p2] X.env := by rfl) (he2 : starEach [.Name x p2] X.env = (false, eval (.Name x p2) X.env) :: starEach [] X.env := by rfl) (hpl : (backTo pos (starEach [.Name x p2] X.env)).any (·.1) = false := by rfl) :
    AE X W (.Call (.Name "isinstance" p) [e, .Name x p2] [] pos) (eIsiO c T fe) := by
  obtain ⟨C, hC, k1, k2, k3, k4, k5, k6⟩ := J.ex
  exact (pe_callB call_isi hg hm (by decide +kernel) (pa_cons ha (pa_cons (pe_bltn (v := .ty T) hx hmx hv (by rfl) hn hd) pa_nil he2) he) (he := he) (hpl := hpl)).weak fun σ H Q ⟨μ, env, st, hs, er, q⟩ =>
    ⟨μ, env, st, hs, er, Post.bind q fun d st1 μ1 H1 v _ x1 hs1 r1 p1 => by
      split at p1
      · rename_i k ek
        refine ⟨v, .ty T, _, _, _, rfl, .ty T, kind_ty hs1 r1 ek, ?_, p1 μ1 H1 _ .refl hs1 rfl⟩
        simp only [subT, Bool.or_false]
        exact kit_ty (kit_all k (kind_mem ek) T hT)
      · split at p1
        · obtain ⟨a, ea, rfl⟩ := r1
          split at p1
          · rename_i c1 f1 e1
            split at p1
            · rename_i hc
              subst hc
              obtain ⟨_, h1, C1, dx, vs, rfl, m1, _⟩ := hs1.obj _ a _ ea e1
              have hC' : (gx X).mg c1 = some (.ref C) := hC
              rw [hC'] at m1
              cases m1
              exact ⟨.ref a, .ty T, .ref C, .type T, false, rfl, .ty T, .base (.ins h1 k1 k2 k3 k4 k5), k6 T hT, p1 μ1 H1 _ .refl hs1 rfl⟩
            · exact p1.elim
          · exact p1.elim
        · exact p1.elim⟩
end
theorem insG_of {K : PySem.W.Frag} {h : Heap} {mg : Str → Option Value} {x : Str} (X : K.In h) (N : h.Ns mainGlobals mg) {C : Addr} (aC : PySem.W.nsIn K mainGlobals x = some (some (.ref C)))
    (pg : PySem.W.plainGet K C Str.empty = true) (hd : PySem.W.hasDictIn K C = true) (po : PySem.W.plainOver K C = true) (sa : PySem.W.findIn K (.ref C) "__setattr__" = some (some (.builtin "object.__setattr__")))
    (k2 : PySem.W.findIn K (.ref C) "__class__" = some (some (.builtin "object.__class__"))) (k3 : PySem.W.specialIn K (.builtin "object.__class__") "__get__" = some (some (.builtin "getset_descriptor.__get__"))) (k4 : PySem.W.takesIn K (.builtin "object.__class__") = some true)
    (k5 : PySem.W.mroIn K C (.type "object") = some true) (t1 : PySem.W.kitOne K (.ref C) (.type "bool") = some false) (t2 : PySem.W.kitOne K (.ref C) (.type "int") = some false) (t3 : PySem.W.kitOne K (.ref C) (.type "str") = some false)
    (t4 : PySem.W.kitOne K (.ref C) (.type "tuple") = some false) (t5 : PySem.W.kitOne K (.ref C) (.type "list") = some false) (t6 : PySem.W.kitOne K (.ref C) (.type "dict") = some false) : InsG ⟨K, mg⟩ x :=
  ⟨C, PySem.W.mg_of X N aC, ⟨pg, hd, po, sa⟩, k2, k3, k4, k5, fun T hT => by
    simp only [tysAll, List.mem_cons, List.not_mem_nil, or_false] at hT
    rcases hT with rfl | rfl | rfl | rfl | rfl | rfl
    · exact t1
    · exact t2
    · exact t3
    · exact t4
    · exact t5
    · exact t6⟩
/-! ## try, one clause without a name -/
def noXS (r : RS) : RS := match r with
  | .exc _ _ _ => .bad
  | r => r
def sTryO (cat : List (Str × Bool)) (fb fs : SF) : SF := fun env st => match fb env st with
  | .exc env' x st' => (match cat.lookup x.cls with
    | some true => noXS (fs env' st')
    | some false => .exc env' x st'
    | none => .bad)
  | r => r
/-- what the clause of x says of the classes asked -/
def TryF (G : GX) (x : Str) (cat : List (Str × Bool)) : Prop := ∃ c, G.mg x = some c ∧ ∀ (y : Str) (b : Bool), cat.lookup y = some b → ∀ C, G.mg y = some C → PySem.W.exmOne G.K C c = some b
section
variable {X : Cx} {W : WX} {pos pos' np : Pos} {lv : Nat} {body suite : List Stmt} {b₀ : Stmt} {fb fs : SF}
theorem as_tryO {x : Str} {cat : List (Str × Bool)} (cx : Ctx X W lv) (h : TryF (gx X) x cat)
    (hb : ∀ (W' : WX) (pn : List (Addr × Obj)) (xe : Value → Shared → Prop), Ctx (X.tr pn xe) W' lv → ASs (X.tr pn xe) W' body fb)
    (hsu : ∀ (a : Addr) (pn : List (Addr × Obj)), ASs (X.suite a pn) W0 (b₀ :: suite) fs)
    (hs : X.stack = X.env :: X.outer := by rfl) (hf : X.env.frame = some X.env.locals := by rfl) (hg : Gl X x := by rfl) (hd : (x == ("__debug__" : Str)) = false := by decide) :
    AS X W (.Try body [.ExceptHandler (some (.Name x np)) none (b₀ :: suite) pos'] [] [] pos) (sTryO cat fb fs) := by
  obtain ⟨c, hc, hm⟩ := h
  exact (ps_try_only (tb := fun W' D σ H => ∃ μ env st, HS (gx X) μ H st ∧ EnvR (gx X) μ H env σ ∧ PostS (gx X) W' μ H (fb env st) D)
    (ts := fun _ _ _ D σ H => ∃ μ env st, HS (gx X) μ H st ∧ EnvR (gx X) μ H env σ ∧ PostS (gx X) W0 μ H (fs env st) D)
    hs hf ⟨hg, hd, .inl hc⟩ cx.tk (fun W' pn xe tk own => hb W' pn xe ⟨cx.nd, cx.calm, cx.room, own, tk⟩) (fun a oe cls d pn _ _ => hsu a _)).weak fun Dn σ H ⟨μ, env, st, hs, er, p⟩ => by
    refine ⟨μ, env, st, hs, er, ?_⟩
    unfold sTryO at p
    cases q : fb env st with
    | next env1 st1 => rw [q] at p; exact p
    | ret d st1 => rw [q] at p; exact p
    | brk env1 st1 => rw [q] at p; exact p
    | cont env1 st1 => rw [q] at p; exact p
    | bad => rw [q] at p; exact p
    | exc env1 x1 st1 =>
      rw [q] at p
      intro μ' H' σ' C od e2 hs2 er2 rx
      obtain ⟨C', hC1, hC2, hC3⟩ := id rx
      simp only at p
      split at p
      · rename_i hl
        refine ⟨true, hm _ _ hl _ (by rw [hC2]; exact hC1), fun _ a na => ⟨μ', env1, st1, hs2, er2, ?_⟩, fun z => nomatch z⟩
        have p2 := PostS.later p e2
        cases q2 : fs env1 st1 with
        | exc e3 x3 s3 => rw [q2] at p2; exact p2.elim
        | next e3 s3 => rw [q2] at p2; exact p2
        | ret e3 s3 => rw [q2] at p2; exact p2
        | brk e3 s3 => rw [q2] at p2; exact p2
        | cont e3 s3 => rw [q2] at p2; exact p2
        | bad => rw [q2] at p2; exact p2.elim
      · rename_i hl
        exact ⟨false, hm _ _ hl _ (by rw [hC2]; exact hC1), (fun z => nomatch z), fun _ => p μ' H' σ' C od e2 hs2 er2 rx⟩
      · exact p.elim
/-- a name set inside an except suite -/
theorem as_setN {e : Expr} {fe : EF} (nd : X.N.Nodup) (i : Nat) {x : Str} {pos' : Pos} (he : AE X W e fe) (hi : X.N[i]? = some x := by rfl) (hx : Loc X.env.scope x := by first | exact Or.inl rfl | exact Or.inr rfl)
    (hs : swapsWith e (some (.Name x pos')) pos.line X.env = pure false := by rfl) (hf : X.fn x = true ∨ X.env.scope.names.lookup x = some .local := by first | exact .inl rfl | exact .inr rfl) :
    AS X W (.Assign [.Name x pos'] e pos) (sSet i fe) := (ps_set nd hi hx he hs hf).weak fun Dn σ H ⟨μ, env, st, hs, er, p⟩ =>
  ⟨μ, env, st, hs, er, PostS.bind p hs er fun d st1 μ1 H1 v _ x1 hs1 r1 p1 => p1 μ1 H1 _ .refl hs1 ((er.ext hs x1).set r1 i)⟩
end
/-! ## facts for the head -/
def TryC (G : GX) (c : Value) (cat : List (Str × Bool)) : Prop := ∀ (y : Str) (b : Bool), cat.lookup y = some b → ∀ C, G.mg y = some C → PySem.W.exmOne G.K C c = some b
theorem tryC_nil {G : GX} {c : Value} : TryC G c [] := fun _ _ h => by cases h
theorem tryC_cons {G : GX} {c C : Value} {y : Str} {b : Bool} {cat : List (Str × Bool)} (hy : G.mg y = some C) (e : PySem.W.exmOne G.K C c = some b) (t : TryC G c cat) : TryC G c ((y, b) :: cat) := fun z b' h C' hC' => by
  rw [List.lookup_cons] at h
  split at h
  · rename_i hz
    have hz : z = y := by simpa using hz
    cases h
    subst hz
    rw [hy] at hC'
    cases hC'
    exact e
  · exact t z b' h C' hC'
theorem tryF_of {G : GX} {x : Str} {c : Value} {cat : List (Str × Bool)} (h : G.mg x = some c) (t : TryC G c cat) : TryF G x cat := ⟨c, h, t⟩
/-! ## for the specs -/
@[simp] theorem eDct0_ap (env : AEnv) (st : Store) : eDct0 env st = .ok (.ref st.length) (st ++ [.dct []]) := rfl
/-- isinstance of one value -/
def vIsiO (c : Str) (T : String) (d : D) (st : Store) : R D := match kindD d st with
  | some k => .ok (.bl (subT [T] k)) st
  | none => match d with
    | .ref n => (match st[n]? with
      | some (.ins c1 _) => if c1 = c then .ok (.bl false) st else .bad
      | _ => .bad)
    | _ => .bad
@[simp] theorem eIsiO_ap (c : Str) (T : String) (fe : EF) (env : AEnv) (st : Store) : eIsiO c T fe env st = (fe env st).bind (vIsiO c T) := (Eq.refl _).trans rfl
@[simp] theorem vIsiO_non (c : Str) (T : String) (st : Store) : vIsiO c T .non st = .ok (.bl (subT [T] "NoneType")) st := rfl
@[simp] theorem vIsiO_bl (c : Str) (T : String) (b : Bool) (st : Store) : vIsiO c T (.bl b) st = .ok (.bl (subT [T] "bool")) st := rfl
@[simp] theorem vIsiO_int (c : Str) (T : String) (i : Int) (st : Store) : vIsiO c T (.int i) st = .ok (.bl (subT [T] "int")) st := rfl
@[simp] theorem vIsiO_str (c : Str) (T : String) (x : Str) (st : Store) : vIsiO c T (.str x) st = .ok (.bl (subT [T] "str")) st := rfl
@[simp] theorem vIsiO_tup (c : Str) (T : String) (ds : List D) (st : Store) : vIsiO c T (.tup ds) st = .ok (.bl (subT [T] "tuple")) st := rfl
theorem vIsiO_lst {c : Str} {T : String} {n : Nat} {ds : List D} {st : Store} (h : st[n]? = some (.lst ds)) : vIsiO c T (.ref n) st = .ok (.bl (subT [T] "list")) st := by
  unfold vIsiO
  simp [kindD, h]
theorem vIsiO_dct {c : Str} {T : String} {n : Nat} {kvs : List (D × D)} {st : Store} (h : st[n]? = some (.dct kvs)) : vIsiO c T (.ref n) st = .ok (.bl (subT [T] "dict")) st := by
  unfold vIsiO
  simp [kindD, h]
theorem vIsiO_ins {c : Str} {T : String} {n : Nat} {fs : List (Str × D)} {st : Store} (h : st[n]? = some (.ins c fs)) : vIsiO c T (.ref n) st = .ok (.bl false) st := by
  unfold vIsiO
  simp [kindD, h]
@[simp] theorem noXS_next (e : AEnv) (s : Store) : noXS (.next e s) = .next e s := rfl
@[simp] theorem noXS_ret (d : D) (s : Store) : noXS (.ret d s) = .ret d s := rfl
theorem sTryO_ap (cat : List (Str × Bool)) (fb fs : SF) (env : AEnv) (st : Store) : sTryO cat fb fs env st = match fb env st with
  | .exc env' x st' => (match cat.lookup x.cls with
    | some true => noXS (fs env' st')
    | some false => .exc env' x st'
    | none => .bad)
  | r => r := rfl
end TK

set_option Elab.async false
set_option linter.all false
set_option maxRecDepth 100000
set_option maxHeartbeats 4000000
namespace TK
open PySem PySem.Spec
open PyProof.Rows hiding St
open L2
/-! # own methods -/
section
variable {X : Cx} {CX : CXT} {k : Nat} {f C : Addr} {fd : FuncData} {ps : List Str} {sp : Sp} {E : St → XK} {m : Str} {pos apos : Pos} {e o : Expr} {es : List Expr} {ta : TE} {t : TA} {pl : Sem Bool}
def tMethS (C : Addr) (m : Str) (sp : Sp) (E : St → XK) (ta : TE) (t : TA) : TE := fun σ H Q => ta σ H fun x H1 => ∃ a dx fs, x = .ref a ∧ H1 a = some (.ins C dx fs) ∧ fs.lookup m = none ∧ t σ H1 fun vs H2 => sp (x :: vs) H2 Q (E σ)
abbrev MethEv (X : Cx) (o : Expr) (m : Str) (es : List Expr) (apos pos : Pos) (pl : Sem Bool) : Prop :=
  eval (.Call (.Attribute o m apos) es [] pos) X.env = (do let ov ← eval o X.env; standAt apos.atName; let (f, first) ← holding [ov] (getMethod ov m pl); callWith pos f first (backTo pos (starEach es X.env)) (backToKw pos (keywordEach [] X.env)))
theorem pe_methX (he : PE X o ta) (c : Cls X.K C) (hm : Meth X.K C m f) (F : FnOk X.prog X.w X.K X.mg X.base CX k f fd ps sp) (hr : Room k X.A) (hb : Binds X.K fd ps []) (hx : ∀ σ, PassesAt CX X σ (E σ)) (ha : PA X (e :: es) t)
    (hst : starEach (e :: es) X.env = (false, eval e X.env) :: starEach es X.env) (hpl : (backTo pos (starEach es X.env)).any (·.1) = false) (ht : MethEv X o m (e :: es) apos pos pl) : PE X (.Call (.Attribute o m apos) (e :: es) [] pos) (tMethS C m sp E ta t) :=
  ⟨fun pins s σ H Q I h => PySem.W.methodCall_KW (pl := pl) (thn (he.run pins s σ H _ I h) fun u s1 ⟨x, H1, I1, rx, a, dx, fs, ex, ea, l, q⟩ => by
    subst ex
    cases rx
    exact getmeth_ok I1 ea c hm l (PySem.W.callWith_K (first := [.ref a]) (h₀ := X.base) I.ok.mod.kin hm.kp (thn (ha.run pos pins s1 σ H1 _ I1 q) fun us s2 ⟨vs, H2, I2, r, q2⟩ =>
      ⟨I2.kIn, run_fnSD (us := .ref a :: us) (vs := .ref a :: vs) (dvs := []) (ds := []) F hr hb .nil (hx σ) I2 (.cons rfl r) (by rw [List.append_nil]; exact q2)⟩) hst hpl)) ht⟩
theorem pe_methX0 (he : PE X o ta) (c : Cls X.K C) (hm : Meth X.K C m f) (F : FnOk X.prog X.w X.K X.mg X.base CX k f fd ps sp) (hr : Room k X.A) (hb : Binds X.K fd ps []) (hx : ∀ σ, PassesAt CX X σ (E σ))
    (ht : MethEv X o m [] apos pos pl) : PE X (.Call (.Attribute o m apos) [] [] pos) (tMethS C m sp E ta tNil) :=
  ⟨fun pins s σ H Q I h => PySem.W.methodCall_KW (pl := pl) (thn (he.run pins s σ H _ I h) fun u s1 ⟨x, H1, I1, rx, a, dx, fs, ex, ea, l, q⟩ => by
    subst ex
    cases rx
    exact getmeth_ok I1 ea c hm l (PySem.W.callWith_K0 (first := [.ref a]) I1.kIn hm.kp (run_fnSD (us := [.ref a]) (vs := [.ref a]) (dvs := []) (ds := []) F hr hb .nil (hx σ) I1 (.cons rfl .nil) q))) ht⟩
end
/-- the def x of the class c -/
structure DefA (G : GX) (P : Program) (w : World) (base : Heap) (k : Nat) (c x : Str) (n : Nat) (m : List D → Store → R D) : Prop where
  ex : ∃ C f fd ps, FnOk P w G.K G.mg base (L2.CX P w) k f fd ps (spA G m n) ∧ G.mg c = some (.ref C) ∧ Cls G.K C ∧ Meth G.K C x f ∧ Binds G.K fd ps []
/-- the object whose method is asked -/
def selfR (c x : Str) (d : D) (st : Store) : R D := match d with
  | .ref n => (match st[n]? with
    | some (.ins c1 fs) => if c1 = c ∧ fs.lookup x = none then .ok (.ref n) st else .bad
    | _ => .bad)
  | _ => .bad
noncomputable def eMeth (c x : Str) (m : List D → Store → R D) (fo : EF) (fr : LF) : EF := fun env st => (fo env st).bind fun d st1 => (selfR c x d st1).bind fun d st1 => (fr env st1).bind fun ds st2 => gcR st2 (m (d :: ds) st2)
theorem RelF.none {G : GX} {μ : List Addr} {H : Hp} : ∀ {fs : List (Str × D)} {vs : List (Str × V)} {f : Str}, RelF G μ H fs vs → fs.lookup f = none → vs.lookup f = none
  | [], _, _, r, _ => by cases r; rfl
  | (x, d) :: fs, _, f, r, e => by
    obtain ⟨v, rest, rfl, rd, rs⟩ := r
    rw [List.lookup_cons] at e ⊢
    split at e
    · cases e
    · exact RelF.none rs e
section
variable {X : Cx} {W : WX} {o e : Expr} {es : List Expr} {fo : EF} {fr : LF} {pos apos : Pos} {lv k n : Nat} {pl : Sem Bool} {c x : Str} {m : List D → Store → R D}
theorem meth_sp {C : Addr} {σ : St} {H : Hp} {Q : VK} (hC : (gx X).mg c = some (.ref C)) (h : tG (gx X) W (relD (gx X)) (eMeth c x m fo fr) σ H Q) (hn : ∀ env st ds st', fr env st = .ok ds st' → ds.length = n) :
    tMethS C x (spA (gx X) m (n + 1)) (WE W) (tG (gx X) W (relD (gx X)) fo) (tG (gx X) W (relDs (gx X)) fr) σ H Q := by
  obtain ⟨μ, env, st, hs, er, q⟩ := h
  refine ⟨μ, env, st, hs, er, Post.bind q fun d st1 μ1 H1 v e1 x1 hs1 r1 p1 => ?_⟩
  unfold selfR at p1
  split at p1
  · rename_i i
    split at p1
    · rename_i c1 fs e2
      split at p1
      · rename_i hc
        obtain ⟨rfl, hl⟩ := hc
        obtain ⟨a, ea, rfl⟩ := r1
        obtain ⟨_, h1, C1, dx, vs, rfl, m1, rf⟩ := hs1.obj i a _ ea e2
        rw [hC] at m1
        cases m1
        refine ⟨a, dx, vs, rfl, h1, rf.none hl, μ1, env, st1, hs1, er.ext hs x1, ?_⟩
        rw [R.bind_ok] at p1
        refine Post.bind p1 fun ds st2 μ2 H2 us e3 x2 hs2 r2 p2 => ?_
        refine ⟨μ2, st2, .ref i :: ds, hs2, .cons (RelD.ext hs1 x2 (.ref i) _ ⟨a, ea, rfl⟩) r2, (Post.gc hs2 p2).slots fun _ _ _ w => w, by simp [hn env st1 ds st2 e3]⟩
      · exact p1.elim
    · exact p1.elim
  · exact p1.elim
theorem ae_meth (F : DefA (gx X) X.prog X.w X.base k c x (n + 1) m) (cx : Ctx X W lv) (ho : AE X W o fo) (ha : AA X W (e :: es) fr) (hn : ∀ env st ds st', fr env st = .ok ds st' → ds.length = n) (hk : k ≤ lv := by decide)
    (hst : starEach (e :: es) X.env = (false, eval e X.env) :: starEach es X.env := by rfl) (hpl : (backTo pos (starEach es X.env)).any (·.1) = false := by rfl) (ht : MethEv X o x (e :: es) apos pos pl := by rfl) :
    AE X W (.Call (.Attribute o x apos) (e :: es) [] pos) (eMeth c x m fo fr) := by
  obtain ⟨C, f, fd, ps, F, hC, h1, h2, h3⟩ := F.ex
  exact (pe_methX ho h1 h2 F (cx.room.mono hk) h3 cx.at ha hst hpl ht).weak fun σ H Q h => meth_sp hC h hn
theorem ae_meth0 (F : DefA (gx X) X.prog X.w X.base k c x 1 m) (cx : Ctx X W lv) (ho : AE X W o fo) (hk : k ≤ lv := by decide) (ht : MethEv X o x [] apos pos pl := by rfl) :
    AE X W (.Call (.Attribute o x apos) [] [] pos) (eMeth c x m fo lNil) := by
  obtain ⟨C, f, fd, ps, F, hC, h1, h2, h3⟩ := F.ex
  refine (pe_methX0 ho h1 h2 F (cx.room.mono hk) h3 cx.at ht).weak fun σ H Q h => ?_
  obtain ⟨μ, env, st, hs, er, q⟩ := meth_sp hC h lNil_len
  refine ⟨μ, env, st, hs, er, Post.mono q ?_⟩
  rintro v H1 ⟨a, dx, fs, ev, eh, el, μ1, env1, st1, hs1, er1, p⟩
  exact ⟨a, dx, fs, ev, eh, el, p μ1 H1 [] .refl hs1 rfl⟩
end

/-! # != by the own == -/
section
variable {prog : Program} {w : World} {A : Around} {E : Value → Shared → Prop} {s : Shared} {K : PySem.W.Frag} {x C f : Addr} {ox : Obj} {od : Option Obj} {b tb : Value}
theorem ne_slot {Q : Fin → Shared → Prop} (hu : A.units < cLine) (X : K.In s.heap) (I : PySem.W.InstAt s.heap x ox C od) (he : PySem.W.findIn K (.ref C) "__eq__" = some (some (.ref f))) (hf : PySem.W.isFn K (.ref f) = true)
    (h : wpAny (model prog w) A (call (.ref f) [.ref x, b]) (fun v s' => ∃ t, v = .bool t ∧ Q (.done (.ret (.bool (!t)))) s') E s) : wpAny (model prog w) A (Builtin.«object.__ne__» ⟨[.ref x, b], []⟩) Q E s := by
  unfold Builtin.«object.__ne__»
  refine wpAny_bind (m := slotArgs _ _ _) (wpAny_pure ?_)
  refine wpAny_bind (wpAny_cRoomFor hu (wpAny_bind (PySem.W.ifBound_K X I he hf (wpAny_mono h (fun v s' hv => ?_) fun _ _ e => e))))
  obtain ⟨t, rfl, q⟩ := hv
  exact wpAny_bind (m := truthy (.bool t)) (wpAny_truthy_bool (wpAny_pure q))
theorem ne_K {Q : Value → Shared → Prop} (hu : A.units + 1 < cLine) (X : K.In s.heap) (I : PySem.W.InstAt s.heap x ox C od) (hb : PySem.W.Looks (model prog w) s.heap (typeOf b) tb) (hn : PySem.W.notFirst K C tb = true)
    (hs : PySem.W.findIn K (.ref C) "__ne__" = some (some (.builtin "object.__ne__"))) (he : PySem.W.findIn K (.ref C) "__eq__" = some (some (.ref f))) (hf : PySem.W.isFn K (.ref f) = true) (hm : PySem.W.mroIn K C (.type "object") = some true)
    (h : wpAny (model prog w) A.in1 (call (.ref f) [.ref x, b]) (fun v s' => ∃ t, v = .bool t ∧ Q (.bool (!t)) s') E s) : wpAny (model prog w) A (richCompare .NotEq (.ref x) b) Q E s := by
  have SL := PySem.F.cmp_object.ne
  have sub : PySem.W.Looks (model prog w) s.heap (isInstance (.ref x) (.type "object")) true := I.type.andThen (PySem.W.looks_mroIn X hm)
  have run : wpAny (model prog w) A (call (.builtin "object.__ne__") [.ref x, b]) (fun v s' => v ≠ .notImplemented ∧ Q v s') E s := by
    refine wpAny_call (codeAny_call_builtin SL.plain PySem.F.cmpEntry_ne (@PySem.W.check_slot (model prog w) _ _ s "object.__ne__" "object" "__ne__" (.ref x) [b] [] _ PySem.F.cmpKind_ne PySem.F.cmpSplit_ne sub (PySem.F.cmpArgs_ne _ _) ?_))
    exact ne_slot (A := A.in1) (by simpa using hu) X I he hf (wpAny_mono h (fun v s' ⟨t, e, q⟩ => ⟨t, e, by simp, q⟩) fun _ _ e => e)
  have one : wpAny (model prog w) A (tryCompare (.ref x) "__ne__" b) (fun r s' => ∃ v, r = some v ∧ Q v s') E s := by
    have fin : wpAny (model prog w) A (callSpecialIfBound? (.ref x) "__ne__" [b]) (fun r s' => ∃ v, r = some v ∧ v ≠ .notImplemented ∧ Q v s') E s := by
      unfold callSpecialIfBound? bindSpecialIfBound?
      refine wpAny_holding (wpAny_bind (wpAny_bind (wpAny_bind (I.type.here ((PySem.W.looks_findIn X hs).here ?_)))))
      dsimp only
      rw [SL.bind]
      refine wpAny_bind (wpAny_askSetting (wpAny_ite ?_))
      have z : wpAny (model prog w) A (call (.builtin "object.__ne__") ([.ref x] ++ [b]) >>= fun v => pure (some v)) (fun r s' => ∃ v, r = some v ∧ v ≠ .notImplemented ∧ Q v s') E s := wpAny_bind (wpAny_mono run (fun v s' q => wpAny_pure ⟨v, rfl, q⟩) fun _ _ e => e)
      split
      · exact wpAny_bind (wpAny_pure (wpAny_pure z))
      · exact wpAny_tryCatch (wpAny_bind (wpAny_pure (wpAny_pure z)))
    unfold tryCompare
    refine wpAny_bind (wpAny_mono fin (fun r s' q => ?_) fun _ _ e => e)
    obtain ⟨v, rfl, nv, q⟩ := q
    cases v <;> first | exact (nv rfl).elim | exact wpAny_pure ⟨_, rfl, q⟩
  unfold richCompare
  simp only [oneThing_ref]
  refine wpAny_holding (wpAny_bind (wpAny_cRoomFor (by omega) (wpAny_bind (I.type.here (wpAny_bind (hb.here ?_))))))
  split
  · rename_i q
    have e : PySem.W.subIn K tb (.ref C) = some false := by
      rcases Bool.or_eq_true_iff.mp hn with e | e
      · rw [beq_iff_eq.mp e] at q; simp at q
      · exact beq_iff_eq.mp e
    refine wpAny_bind ((PySem.W.looks_subIn X e).here ?_)
    exact wpAny_bind (wpAny_mono one (fun r s' ⟨v, er, q⟩ => by subst er; exact wpAny_pure q) fun _ _ e => e)
  · exact wpAny_bind (wpAny_pure (wpAny_bind (wpAny_mono one (fun r s' ⟨v, er, q⟩ => by subst er; exact wpAny_pure q) fun _ _ e => e)))
end
def rOwnN (C : Addr) (sp : Sp) : R2 := fun x y H Q => ∃ a b dx dy fs gs, x = .ref a ∧ y = .ref b ∧ H a = some (.ins C dx fs) ∧ H b = some (.ins C dy gs) ∧ sp [.ref a, .ref b] H (fun v G => ∃ t : Bool, v = .bl t ∧ Q (.bl (!t)) G) (fun _ _ _ => False)
theorem op_ownN {X : Cx} {CX : CXT} {C f : Addr} {fd : FuncData} {ps : List Str} {n : Nat} {sp : Sp} (F : FnOk X.prog X.w X.K X.mg X.base CX n f fd ps sp) (hr : Room (n + 1) X.A) (hs : PySem.W.findIn X.K (.ref C) "__ne__" = some (some (.builtin "object.__ne__"))) (hm : PySem.W.mroIn X.K C (.type "object") = some true)
    (he : PySem.W.findIn X.K (.ref C) "__eq__" = some (some (.ref f))) (hi : PySem.W.isFn X.K (.ref f) = true) (hb : Binds X.K fd ps []) (hx : Passes CX X (fun _ _ _ => False)) : OpR X (compareOp .NotEq) (rOwnN C sp) := by
  intro pins s σ H x y v u Q I rx ry ⟨a, b, dx, dy, fs, gs, ex, ey, ha, hb2, hsp⟩
  subst ex; subst ey
  cases rx; cases ry
  obtain ⟨_, K1, _⟩ := ins_get I.hok ha
  obtain ⟨_, K2, _⟩ := ins_get I.hok hb2
  obtain ⟨_, K1, _⟩ := K1.look
  obtain ⟨_, K2, _⟩ := K2.look
  refine (?_ : wpAny (model X.prog X.w) X.A (richCompare .NotEq (.ref a) (.ref b)) (EP X pins σ Q) X.xe s)
  refine ne_K (tb := .ref C) (by have := hr.un; omega) I.kIn K1 K2.type (by simp [PySem.W.notFirst]) hs he hi hm ?_
  have lens : 2 = ps.length := F.len _ _ _ _ hsp
  have rels : Vals [V.ref a, V.ref b] [Value.ref a, Value.ref b] := .cons rfl (.cons rfl .nil)
  have bnd := hb s [.ref a, .ref b] I.kIn (by simpa using lens)
  refine wpAny_call (codeAny_mono (F.run X.A.in1 X.stack s H ⟨[.ref a, .ref b], []⟩ _ _ _ _ hr.in1 I.env0.in1 (by simpa using bnd) rels hsp) fun r t hq => ?_)
  match r, hq with
  | .error e, hq => exact hx pins σ H s e t I hq
  | .ok (.ret w), hq =>
    obtain ⟨z, G, J, rz, k, ez, q⟩ := I.after hq
    subst ez
    cases rz
    exact ⟨k, rfl, .bl (!k), G, J, rfl, q⟩
  | .ok .next, hq => exact False.elim hq
  | .ok .brk, hq => exact False.elim hq
  | .ok .cont, hq => exact False.elim hq
/-- what != by an own == wants of a class -/
structure NeF (G : GX) (c : Str) : Prop where
  ex : ∀ C, G.mg c = some (.ref C) → PySem.W.findIn G.K (.ref C) "__ne__" = some (some (.builtin "object.__ne__")) ∧ PySem.W.mroIn G.K C (.type "object") = some true
def blNR (r : R D) : R D := match r with
  | .ok (.bl b) st => .ok (.bl (!b)) st
  | _ => .bad
noncomputable def neI (c : Str) (m : List D → Store → R D) (x y : D) (st : Store) : R D := match x, y with
  | .ref n, .ref j => (match st[n]?, st[j]? with
    | some (.ins c1 _), some (.ins c2 _) => if c1 = c ∧ c2 = c then blNR (gcR st (m [.ref n, .ref j] st)) else .bad
    | _, _ => neD (.ref n) (.ref j) st)
  | x, y => neD x y st
theorem neIA {G : GX} {c : Str} {m : List D → Store → R D} {C : Addr} (hC : G.mg c = some (.ref C)) : OpA G (neI c m) (fun x y H Q => rOwnN C (spA G m 2) x y H Q ∨ rNeD G.K x y H Q) := by
  intro W σ μ H st x y v u Q hs rx ry p
  unfold neI at p
  split at p
  · rename_i n j
    split at p
    · rename_i c1 f1 c2 f2 e1 e2
      split at p
      · rename_i hc
        obtain ⟨rfl, rfl⟩ := hc
        obtain ⟨a, ea, rfl⟩ := rx
        obtain ⟨b, eb, rfl⟩ := ry
        obtain ⟨_, h1, C1, dx, vs, rfl, m1, _⟩ := hs.obj n a _ ea e1
        obtain ⟨_, h2, C2, dy, us, rfl, m2, _⟩ := hs.obj j b _ eb e2
        rw [hC] at m1 m2
        cases m1; cases m2
        refine .inl ⟨a, b, dx, dy, vs, us, rfl, rfl, h1, h2, μ, st, [.ref n, .ref j], hs, ⟨_, _, rfl, ⟨a, ea, rfl⟩, _, _, rfl, ⟨b, eb, rfl⟩, rfl⟩, ?_, rfl⟩
        refine Post.gc hs ?_
        revert p
        cases gcR st (m [.ref n, .ref j] st) with
        | ok d st' =>
          intro p
          cases d with
          | bl k => exact fun μ' H' z e hs' r => ⟨k, r, p μ' H' (.bl (!k)) e hs' rfl⟩
          | _ => exact p.elim
        | exc x' st' => intro p; exact p.elim
        | bad => intro p; exact p.elim
      · exact p.elim
    · exact .inr (neA W σ μ H st _ _ v u Q hs rx ry p)
  · exact .inr (neA W σ μ H st _ _ v u Q hs rx ry p)
section
variable {X : Cx} {W : WX} {a b e : Expr} {fa fb fe : EF} {pos : Pos} {lv k : Nat}
theorem ae_neI {c : Str} {m : List D → Store → R D} (F : EqA (gx X) X.prog X.w X.base k c m) (N : NeF (gx X) c) (cx : Ctx X W lv) (ha : AE X W a fa) (hb : AE X W b fb) (hk : k + 1 ≤ lv := by decide) : AE X W (.Compare a [.NotEq] [b] pos) (e2 (neI c m) fa fb) := by
  obtain ⟨C, f, fd, ps, F, hC, h1, h2, h3⟩ := F.ex
  obtain ⟨n1, n2⟩ := N.ex C hC
  exact ae_cmp (OpR_or (op_ownN F (cx.room.mono hk) n1 n2 h1 h2 h3 (fun pins σ H s e s' I z => by obtain ⟨_, _, _, _, _, _, _, _, _, _, _, _, z⟩ := z; exact z.elim)) (op_neD cx.room.units)) (neIA hC) ha hb (nomark _)
theorem at_neI {c : Str} {m : List D → Store → R D} (F : EqA (gx X) X.prog X.w X.base k c m) (N : NeF (gx X) c) (cx : Ctx X W lv) (ha : AE X W a fa) (hb : AE X W b fb) (hk : k + 1 ≤ lv := by decide) : AT X W (.Compare a [.NotEq] [b] pos) (bB (e2 (neI c m) fa fb)) := by
  obtain ⟨C, f, fd, ps, F, hC, h1, h2, h3⟩ := F.ex
  obtain ⟨n1, n2⟩ := N.ex C hC
  exact at_cmp (OpR_or (op_ownN F (cx.room.mono hk) n1 n2 h1 h2 h3 (fun pins σ H s e s' I z => by obtain ⟨_, _, _, _, _, _, _, _, _, _, _, _, z⟩ := z; exact z.elim)) (op_neD cx.room.units)) (neIA hC) ha hb (nomark _)
end
theorem neF_of {K : PySem.W.Frag} {h : Heap} {mg : Str → Option Value} {x : Str} (X : K.In h) (N : h.Ns mainGlobals mg) {C : Addr} (aC : PySem.W.nsIn K mainGlobals x = some (some (.ref C)))
    (n1 : PySem.W.findIn K (.ref C) "__ne__" = some (some (.builtin "object.__ne__"))) (n2 : PySem.W.mroIn K C (.type "object") = some true) : NeF ⟨K, mg⟩ x := ⟨fun C' hm => by
      have e := (PySem.W.mg_of X N aC).symm.trans hm
      cases e
      exact ⟨n1, n2⟩⟩
/-! # defs of a class as ties -/
def MetF (G : GX) (c x qual : Str) (st : Stmt) : Prop := ∃ C f fd, G.mg c = some (.ref C) ∧ Cls G.K C ∧ Meth G.K C x f ∧ Fun G.K x qual st f fd
section
variable {G : GX} {P : Program} {w : World} {base : Heap}
theorem DefA.of {c x qual : Str} {st : Stmt} {N ps : List Str} {k : Nat} {body : SF} (T : MetF G c x qual st) (S : FnScope N ps (defScope st)) (hb : ∀ f fd, Fun G.K x qual st f fd → Binds G.K fd ps [])
    (h : ∀ (f : Addr) (cdv : Value) (A : Around) (outer : List Env) (s : Shared) (H : Hp) (E : XK),
      Ctx (cxOf (L2.CX P w) P w G.K G.mg base N qual (defScope st) f cdv A outer s H E) (fun C od _ H' => E C od H') k → ASs (cxOf (L2.CX P w) P w G.K G.mg base N qual (defScope st) f cdv A outer s H E) (fun C od _ H' => E C od H') (defBody st) body) :
    DefA G P w base (k + 1) c x ps.length (runDef N.length body) := by
  obtain ⟨C, f, fd, hm, c1, c2, F⟩ := T
  exact ⟨C, f, fd, ps, FnOk.ofA F S (h f), hm, c1, c2, hb f fd F⟩
end
theorem metF_of {K : PySem.W.Frag} {h : Heap} {mg : Str → Option Value} {c x qual : Str} {st : Stmt} (X : K.In h) (N : h.Ns mainGlobals mg) {C f : Addr} {od an : Option Addr} {sl : Array (Option Value)} {oc kV dc pm cd ct : Value}
    (aC : PySem.W.nsIn K mainGlobals c = some (some (.ref C))) (pg : PySem.W.plainGet K C Str.empty = true) (hd : PySem.W.hasDictIn K C = true) (po : PySem.W.plainOver K C = true) (sa : PySem.W.findIn K (.ref C) "__setattr__" = some (some (.builtin "object.__setattr__")))
    (a1 : PySem.W.findIn K (.ref C) x = some (some (.ref f))) (i1 : PySem.W.isFn K (.ref f) = true)
    (l1 : K.lookup f = some ⟨oc, od, .func (PySem.W.fnOf x qual (defArgs st) (defBody st) (defScope st) .none kV dc pm an cd ct), sl⟩) (c1 : PySem.W.codeIn K cd qual = true) (k1 : PySem.W.keepIn K (.ref f) = true) : MetF ⟨K, mg⟩ c x qual st :=
  ⟨C, f, _, PySem.W.mg_of X N aC, ⟨pg, hd, po, sa⟩, ⟨a1, i1, k1⟩, fun_mk (st := st) l1 c1 k1⟩
end TK

set_option Elab.async false
set_option linter.all false
set_option maxRecDepth 100000
set_option maxHeartbeats 4000000
namespace TK
open PySem PySem.Spec
open PyProof.Rows hiding St
open L2
/-! # pairs of an instance and plain data compared -/
section
variable {prog : Program} {w : World} {A : Around} {E : Value → Shared → Prop} {R : Result → Shared → Prop}
theorem tup2_ne {l b : Addr} {x1 x2 y1 y2 : Value} {n n2 : Nat} {dd dd2 : Option Addr} {sl sl2 : Array (Option Value)} {s : Shared}
    (hl : s.heap.get? l = some { cls := .type "tuple", dict := dd, data := .seq #[x1, x2] n, slots := sl }) (hb : s.heap.get? b = some { cls := .type "tuple", dict := dd2, data := .seq #[y1, y2] n2, slots := sl2 })
    (h : wpAny (model prog w) A.in1 (eqBool x1 y1) (fun r s1 => r = true ∧ wpAny (model prog w) A.in1 (eqBool x2 y2) (fun r s2 => r = true ∧ R (.ok (.ret (.bool false))) s2) (fun e s' => R (.error e) s') s1) (fun e s' => R (.error e) s') s) :
    wpAny (model prog w) A.in1 (Builtin.«tuple.__ne__» ⟨[.ref l, .ref b], []⟩) (GQ.FinOf prog w A R) (fun e s' => R (.error e) s') s := by
  have f2 := AutoSeq1.sub_tuple_tuple
  obtain ⟨hp, g, d, tk, os⟩ := s
  have w1 := h
  wp_walk using wpAny_loadPart' hl, wpAny_loadPart' hb, wpAny_forIn_list _ (fun rest b s' => b.1 = none ∧ ((rest = [(x1, y1), (x2, y2)] ∧ wpAny (model prog w) A.in1 (eqBool x1 y1) (fun r s1 => r = true ∧ wpAny (model prog w) A.in1 (eqBool x2 y2) (fun r s2 => r = true ∧ R (.ok (.ret (.bool false))) s2) (fun e s' => R (.error e) s') s1) (fun e s' => R (.error e) s') s') ∨
    (rest = [(x2, y2)] ∧ wpAny (model prog w) A.in1 (eqBool x2 y2) (fun r s2 => r = true ∧ R (.ok (.ret (.bool false))) s2) (fun e s' => R (.error e) s') s') ∨ (rest = [] ∧ R (.ok (.ret (.bool false))) s'))) _
  case turn =>
    rintro ⟨y, x⟩ rest b s' ⟨hb', hz⟩
    rcases hz with ⟨hz, q⟩ | ⟨hz, q⟩ | ⟨hz, q⟩
    · cases hz
      refine wpAny_bind (wpAny_mono q (fun r s2 q2 => ?_) fun _ _ e => e)
      obtain ⟨rfl, q2⟩ := q2
      wp_walk
      exact ⟨rfl, .inr (.inl ⟨rfl, q2⟩)⟩
    · cases hz
      refine wpAny_bind (wpAny_mono q (fun r s2 q2 => ?_) fun _ _ e => e)
      obtain ⟨rfl, q2⟩ := q2
      wp_walk
      exact ⟨rfl, .inr (.inr ⟨rfl, q2⟩)⟩
    · cases hz
  case fin =>
    rintro ⟨b1, b2⟩ s' ⟨hb', hz⟩
    simp only at hb'
    subst hb'
    rcases hz with ⟨hz, q⟩ | ⟨hz, q⟩ | ⟨_, q⟩
    · cases hz
    · cases hz
    · wp_walk
      simpa [Builtin.Tuple.tupleCompareSizes] using q
  case h => exact ⟨rfl, .inl ⟨rfl, w1⟩⟩
theorem tup2_eq {l b : Addr} {x1 x2 y1 y2 : Value} {n n2 : Nat} {dd dd2 : Option Addr} {sl sl2 : Array (Option Value)} {s : Shared}
    (hl : s.heap.get? l = some { cls := .type "tuple", dict := dd, data := .seq #[x1, x2] n, slots := sl }) (hb : s.heap.get? b = some { cls := .type "tuple", dict := dd2, data := .seq #[y1, y2] n2, slots := sl2 })
    (h : wpAny (model prog w) A.in1 (eqBool x1 y1) (fun r s1 => r = true ∧ wpAny (model prog w) A.in1 (eqBool x2 y2) (fun r s2 => r = true ∧ R (.ok (.ret (.bool true))) s2) (fun e s' => R (.error e) s') s1) (fun e s' => R (.error e) s') s) :
    wpAny (model prog w) A.in1 (Builtin.«tuple.__eq__» ⟨[.ref l, .ref b], []⟩) (GQ.FinOf prog w A R) (fun e s' => R (.error e) s') s := by
  have f2 := AutoSeq1.sub_tuple_tuple
  obtain ⟨hp, g, d, tk, os⟩ := s
  have w1 := h
  wp_walk using wpAny_loadPart' hl, wpAny_loadPart' hb, wpAny_forIn_list _ (fun rest b s' => b.1 = none ∧ ((rest = [(x1, y1), (x2, y2)] ∧ wpAny (model prog w) A.in1 (eqBool x1 y1) (fun r s1 => r = true ∧ wpAny (model prog w) A.in1 (eqBool x2 y2) (fun r s2 => r = true ∧ R (.ok (.ret (.bool true))) s2) (fun e s' => R (.error e) s') s1) (fun e s' => R (.error e) s') s') ∨
    (rest = [(x2, y2)] ∧ wpAny (model prog w) A.in1 (eqBool x2 y2) (fun r s2 => r = true ∧ R (.ok (.ret (.bool true))) s2) (fun e s' => R (.error e) s') s') ∨ (rest = [] ∧ R (.ok (.ret (.bool true))) s'))) _
  case turn =>
    rintro ⟨y, x⟩ rest b s' ⟨hb', hz⟩
    rcases hz with ⟨hz, q⟩ | ⟨hz, q⟩ | ⟨hz, q⟩
    · cases hz
      refine wpAny_bind (wpAny_mono q (fun r s2 q2 => ?_) fun _ _ e => e)
      obtain ⟨rfl, q2⟩ := q2
      wp_walk
      exact ⟨rfl, .inr (.inl ⟨rfl, q2⟩)⟩
    · cases hz
      refine wpAny_bind (wpAny_mono q (fun r s2 q2 => ?_) fun _ _ e => e)
      obtain ⟨rfl, q2⟩ := q2
      wp_walk
      exact ⟨rfl, .inr (.inr ⟨rfl, q2⟩)⟩
    · cases hz
  case fin =>
    rintro ⟨b1, b2⟩ s' ⟨hb', hz⟩
    simp only at hb'
    subst hb'
    rcases hz with ⟨hz, q⟩ | ⟨hz, q⟩ | ⟨_, q⟩
    · cases hz
    · cases hz
    · wp_walk
      simpa [Builtin.Tuple.tupleCompareSizes] using q
  case h => exact ⟨rfl, .inl ⟨rfl, w1⟩⟩
theorem rc2_ne {l b : Addr} {x1 x2 y1 y2 : Value} {s : Shared} {Q : Value → Shared → Prop} (hu : A.units < cLine) (hl : s.heap.IsTuple l #[x1, x2]) (hb : s.heap.IsTuple b #[y1, y2])
    (h : wpAny (model prog w) A.in1 (eqBool x1 y1) (fun r s1 => r = true ∧ wpAny (model prog w) A.in1 (eqBool x2 y2) (fun r s2 => r = true ∧ Q (.bool false) s2) E s1) E s) : wpAny (model prog w) A (richCompare .NotEq (.ref l) (.ref b)) Q E s := by
  obtain ⟨⟨_, dd, _, sl⟩, ho, hc, n, hd⟩ := id hl
  obtain ⟨⟨_, dd2, _, sl2⟩, ho2, hc2, n2, hd2⟩ := id hb
  dsimp only at hc hd hc2 hd2
  subst hc hd hc2 hd2
  refine wpAny_richCompare_same_room (op := .NotEq) ⟨_, ho, rfl⟩ ⟨_, ho2, rfl⟩ F.slot_tuple_ne (GQ.call_here F.slot_tuple_ne ⟨_, ho, rfl⟩ F.entry_tuple_ne (F.args_tuple_ne_2 _ _) ?_) hu
  exact tup2_ne (R := wants (fun v s' => v ≠ .notImplemented ∧ Q v s') E) ho ho2 (wpAny_mono h (fun r s1 q => ⟨q.1, wpAny_mono q.2 (fun r s2 q => ⟨q.1, (fun x => nomatch x), q.2⟩) fun _ _ e => e⟩) fun _ _ e => e)
theorem rc2_eq {l b : Addr} {x1 x2 y1 y2 : Value} {s : Shared} {Q : Value → Shared → Prop} (hu : A.units < cLine) (hl : s.heap.IsTuple l #[x1, x2]) (hb : s.heap.IsTuple b #[y1, y2])
    (h : wpAny (model prog w) A.in1 (eqBool x1 y1) (fun r s1 => r = true ∧ wpAny (model prog w) A.in1 (eqBool x2 y2) (fun r s2 => r = true ∧ Q (.bool true) s2) E s1) E s) : wpAny (model prog w) A (richCompare .Eq (.ref l) (.ref b)) Q E s := by
  obtain ⟨⟨_, dd, _, sl⟩, ho, hc, n, hd⟩ := id hl
  obtain ⟨⟨_, dd2, _, sl2⟩, ho2, hc2, n2, hd2⟩ := id hb
  dsimp only at hc hd hc2 hd2
  subst hc hd hc2 hd2
  refine wpAny_richCompare_same_room (op := .Eq) ⟨_, ho, rfl⟩ ⟨_, ho2, rfl⟩ F.slot_tuple_eq (GQ.call_here F.slot_tuple_eq ⟨_, ho, rfl⟩ F.entry_tuple_eq (F.args_tuple_eq_2 _ _) ?_) hu
  exact tup2_eq (R := wants (fun v s' => v ≠ .notImplemented ∧ Q v s') E) ho ho2 (wpAny_mono h (fun r s1 q => ⟨q.1, wpAny_mono q.2 (fun r s2 q => ⟨q.1, (fun x => nomatch x), q.2⟩) fun _ _ e => e⟩) fun _ _ e => e)
end
abbrev D2 (K : PySem.W.Frag) : Eqv := DTup K (DTup K DFlat)
def rPair (C : Addr) (K : PySem.W.Frag) (sp : Sp) (r : Bool) : R2 := fun x y H Q => ∃ a b n j p q dx dy fs gs, x = .ref a ∧ y = .ref b ∧ SqT K H a [.ref n, p] ∧ SqT K H b [.ref j, q] ∧ H n = some (.ins C dx fs) ∧ H j = some (.ins C dy gs) ∧
  (n = j → D2 K p q H ∧ ∀ G, L2.Ext H G → Q (.bl r) G) ∧ (n ≠ j → sp [.ref n, .ref j] H (fun v G => v = .bl true ∧ D2 K p q G ∧ ∀ G', L2.Ext G G' → Q (.bl r) G') (fun _ _ _ => False))
theorem eqG_D2 {X : Cx} : EqG X 2 (D2 X.K) := eqG_tup (mon_tup mon_flat) (eqG_tup mon_flat eqG_flat)
theorem op_pair {X : Cx} {CX : CXT} {C f : Addr} {fd : FuncData} {ps : List Str} {n : Nat} {sp : Sp} (F : FnOk X.prog X.w X.K X.mg X.base CX n f fd ps sp) (hr : Room (n + 1) X.A) (hr3 : Room 3 X.A)
    (he : PySem.W.findIn X.K (.ref C) "__eq__" = some (some (.ref f))) (hi : PySem.W.isFn X.K (.ref f) = true) (hb : Binds X.K fd ps []) (hx : Passes CX X (fun _ _ _ => False)) {pins : List (Addr × Obj)} {s : Shared} {σ : St} {H : Hp} {x y : V} {v u : Value} {Q : VK} {r : Bool}
    (I : Inv X pins σ H s) (rx : RelV x v) (ry : RelV y u) (h : rPair C X.K sp r x y H Q) : ∃ a b x1 x2 y1 y2, v = .ref a ∧ u = .ref b ∧ s.heap.IsTuple a #[x1, x2] ∧ s.heap.IsTuple b #[y1, y2] ∧
      wpAny (model X.prog X.w) X.A.in1 (eqBool x1 y1) (fun r1 s1 => r1 = true ∧ wpAny (model X.prog X.w) X.A.in1 (eqBool x2 y2) (fun r2 s2 => r2 = true ∧ EP X pins σ Q (.bool r) s2) X.xe s1) X.xe s := by
  obtain ⟨a, b, n1, j1, p, q, dx, dy, fs, gs, rfl, rfl, ta, tb, ha, hb2, h1, h2⟩ := h
  cases rx; cases ry
  obtain ⟨its, r1, t1, _⟩ := I.tuple ta
  obtain ⟨its2, r2, t2, _⟩ := I.tuple tb
  cases r1 with | cons rn r1 =>
  cases r1 with | cons rp r1 =>
  cases r1
  cases r2 with | cons rj r2 =>
  cases r2 with | cons rq r2 =>
  cases r2
  cases rn; cases rj
  rename_i vp vq
  have sb : Sub X 2 X.A.in1 := ⟨hr3.in1, rfl⟩
  refine ⟨a, b, .ref n1, vp, .ref j1, vq, rfl, rfl, t1, t2, ?_⟩
  by_cases e : n1 = j1
  · subst e
    obtain ⟨d, q2⟩ := h1 rfl
    refine SeqAt.EqAt.same (A := X.A.in1) (s := s) (.ref n1) X.prog X.w X.xe _ ⟨rfl, ?_⟩
    refine wpAny_mono (eqG_D2 X.A.in1 pins s σ H p q _ _ sb I rp rq d) (fun r2 s2 z => ?_) fun _ _ e => e
    obtain ⟨z1, G, J, ex⟩ := z
    exact ⟨z1, .bl r, G, J, rfl, q2 G ex⟩
  · have hsp := h2 e
    obtain ⟨_, K1, _⟩ := ins_get I.hok ha
    obtain ⟨_, K2, _⟩ := ins_get I.hok hb2
    obtain ⟨_, K1, _⟩ := K1.look
    obtain ⟨_, K2, _⟩ := K2.look
    obtain ⟨_, fr⟩ := I.fr
    refine GQ.eqBool_refG e (PySem.W.cmp_K (tb := .ref C) (op := .Eq) hr.in1.units0 fr I.ok.mod.kin K1 K2.type (by simp [PySem.W.notFirst]) he hi ?_)
    have lens : 2 = ps.length := F.len _ _ _ _ hsp
    have rels : Vals [V.ref n1, V.ref j1] [Value.ref n1, Value.ref j1] := .cons rfl (.cons rfl .nil)
    have bnd := hb s [.ref n1, .ref j1] I.kIn (by simpa using lens)
    refine wpAny_call (codeAny_mono (F.run X.A.in1 X.stack s H ⟨[.ref n1, .ref j1], []⟩ _ _ _ _ hr.in1 I.env0.in1 (by simpa using bnd) rels hsp) fun r1 t hq => ?_)
    match r1, hq with
    | .error e, hq => exact hx pins σ H s e t I hq
    | .ok (.ret w), hq =>
      obtain ⟨z, G, J, rz, ez, d, q2⟩ := I.after hq
      subst ez
      cases rz
      refine ⟨true, rfl, rfl, ?_⟩
      refine wpAny_mono (eqG_D2 X.A.in1 pins t σ G p q _ _ sb J rp rq d) (fun r2 s2 z => ?_) fun _ _ e => e
      obtain ⟨z1, G2, J2, ex⟩ := z
      exact ⟨z1, .bl r, G2, J2, rfl, q2 G2 ex⟩
    | .ok .next, hq => exact False.elim hq
    | .ok .brk, hq => exact False.elim hq
    | .ok .cont, hq => exact False.elim hq
/-- a tuple of tuples of ints -/
def ttD (d : D) : Prop := ∃ l : List (List Int), d = .tup (l.map fun xs => .tup (xs.map D.int))
def samePr (c : Str) (m : List D → Store → R D) (x y : D) (st : Store) : Prop := ∃ n j p cf df, x = .tup [.ref n, p] ∧ y = .tup [.ref j, p] ∧ st[n]? = some (.ins c cf) ∧ st[j]? = some (.ins c df) ∧ gcR st (m [.ref n, .ref j] st) = .ok (.bl true) st ∧ ttD p
open Classical in
noncomputable def prP (c : Str) (m : List D → Store → R D) (r : Bool) (x y : D) (st : Store) : R D := if samePr c m x y st then .ok (.bl r) st else .bad
theorem relDs_prs {G : GX} {μ : List Addr} {H : Hp} {E : Eqv} : ∀ {ds : List D} {vs us : List V}, (∀ d ∈ ds, ∀ v u, RelD G μ H d v → RelD G μ H d u → E v u H) → RelDs G μ H ds vs → RelDs G μ H ds us → Prs E vs us H
  | [], _, _, _, r1, r2 => by cases r1; cases r2; exact .nil
  | d :: ds, _, _, h, r1, r2 => by
    obtain ⟨v, vs, rfl, rv, r1⟩ := r1
    obtain ⟨u, us, rfl, ru, r2⟩ := r2
    exact .cons (h d (by simp) v u rv ru) (relDs_prs (fun d hd => h d (by simp [hd])) r1 r2)
theorem ttD_D2 {G : GX} {μ : List Addr} {H : Hp} {p : D} (t : ttD p) {v u : V} (rv : RelD G μ H p v) (ru : RelD G μ H p u) : D2 G.K v u H := by
  obtain ⟨l, rfl⟩ := t
  obtain ⟨a, vs, rfl, sa, rv⟩ := rv
  obtain ⟨b, us, rfl, sb, ru⟩ := ru
  refine ⟨a, b, vs, us, rfl, rfl, .of sa, .of sb, relDs_prs (fun d hd v u rv ru => ?_) rv ru⟩
  obtain ⟨xs, _, rfl⟩ := List.mem_map.mp hd
  obtain ⟨a, vs, rfl, sa, rv⟩ := rv
  obtain ⟨b, us, rfl, sb, ru⟩ := ru
  refine ⟨a, b, vs, us, rfl, rfl, .of sa, .of sb, relDs_prs (fun d hd v u rv ru => ?_) rv ru⟩
  obtain ⟨i, _, rfl⟩ := List.mem_map.mp hd
  cases rv; cases ru
  exact ⟨rfl, rfl, by simp [eqV]⟩
theorem ext_ext {μ : List Addr} {H H' : Hp} (e : L2.Ext H H') : Ext μ H μ H' := ⟨[], by simp, by simp, fun a o h _ => e a o h⟩
theorem HS.exts {G : GX} {μ : List Addr} {H H' : Hp} {st : Store} (h : HS G μ H st) (e : L2.Ext H H') : HS G μ H' st :=
  ⟨h.nd, h.len, fun i a o h1 h2 => by obtain ⟨ho, h3, h4⟩ := h.obj i a o h1 h2; exact ⟨ho, e _ _ h3, HObj.ext h (ext_ext e) h4⟩⟩
theorem prPA {G : GX} {c : Str} {m : List D → Store → R D} {r : Bool} {C : Addr} (hC : G.mg c = some (.ref C)) : OpA G (prP c m r) (fun x y H Q => rPair C G.K (spA G m 2) r x y H Q) := by
  intro W σ μ H st x y v u Q hs rx ry p
  unfold prP at p
  split at p
  · rename_i hp
    obtain ⟨n, j, q, cf, df, rfl, rfl, e1, e2, em, tt⟩ := hp
    obtain ⟨a, vs, rfl, sa, v1, r1, rfl, rn, v2, r2, rfl, rq, e0⟩ := rx
    cases e0
    obtain ⟨b, us, rfl, sb, u1, r1, rfl, rj, u2, r2, rfl, rq2, e0⟩ := ry
    cases e0
    obtain ⟨x1, ex, rfl⟩ := rn
    obtain ⟨y1, ey, rfl⟩ := rj
    obtain ⟨_, h1, C1, dx, fs, rfl, m1, _⟩ := hs.obj n x1 _ ex e1
    obtain ⟨_, h2, C2, dy, gs, rfl, m2, _⟩ := hs.obj j y1 _ ey e2
    rw [hC] at m1 m2
    cases m1; cases m2
    refine ⟨a, b, x1, y1, v2, u2, dx, dy, fs, gs, rfl, rfl, .of sa, .of sb, h1, h2, fun _ => ⟨ttD_D2 tt rq rq2, fun G' e => p μ G' _ (ext_ext e) (hs.exts e) rfl⟩, fun _ => ?_⟩
    refine ⟨μ, st, [.ref n, .ref j], hs, ⟨_, _, rfl, ⟨x1, ex, rfl⟩, _, _, rfl, ⟨y1, ey, rfl⟩, rfl⟩, ?_, rfl⟩
    refine Post.gc hs ?_
    rw [em]
    refine fun μ' H' z e hs' rz => ⟨rz, ttD_D2 tt (RelD.ext hs e _ _ rq) (RelD.ext hs e _ _ rq2), fun G' e2 => p μ' G' _ (e.trans (ext_ext e2)) (hs'.exts e2) rfl⟩
  · exact p.elim
section
variable {X : Cx} {W : WX} {a b e : Expr} {fa fb fe : EF} {pos : Pos} {lv k : Nat}
theorem op_prN {C f : Addr} {fd : FuncData} {ps : List Str} {sp : Sp} {CX : CXT} (F : FnOk X.prog X.w X.K X.mg X.base CX k f fd ps sp) (hr : Room (k + 1) X.A) (hr3 : Room 3 X.A)
    (he : PySem.W.findIn X.K (.ref C) "__eq__" = some (some (.ref f))) (hi : PySem.W.isFn X.K (.ref f) = true) (hb : Binds X.K fd ps []) (hx : Passes CX X (fun _ _ _ => False)) : OpR X (compareOp .NotEq) (rPair C X.K sp false) := by
  intro pins s σ H x y v u Q I rx ry h
  obtain ⟨a, b, x1, x2, y1, y2, rfl, rfl, t1, t2, q⟩ := op_pair F hr hr3 he hi hb hx I rx ry h
  exact rc2_ne hr.units0 t1 t2 q
theorem op_prE {C f : Addr} {fd : FuncData} {ps : List Str} {sp : Sp} {CX : CXT} (F : FnOk X.prog X.w X.K X.mg X.base CX k f fd ps sp) (hr : Room (k + 1) X.A) (hr3 : Room 3 X.A)
    (he : PySem.W.findIn X.K (.ref C) "__eq__" = some (some (.ref f))) (hi : PySem.W.isFn X.K (.ref f) = true) (hb : Binds X.K fd ps []) (hx : Passes CX X (fun _ _ _ => False)) : OpR X (compareOp .Eq) (rPair C X.K sp true) := by
  intro pins s σ H x y v u Q I rx ry h
  obtain ⟨a, b, x1, x2, y1, y2, rfl, rfl, t1, t2, q⟩ := op_pair F hr hr3 he hi hb hx I rx ry h
  exact rc2_eq hr.units0 t1 t2 q
variable {c : Str} {m : List D → Store → R D}
theorem ae_prN (F : EqA (gx X) X.prog X.w X.base k c m) (cx : Ctx X W lv) (ha : AE X W a fa) (hb : AE X W b fb) (hk : k + 1 ≤ lv := by decide) (h3 : 3 ≤ lv := by decide) : AE X W (.Compare a [.NotEq] [b] pos) (e2 (prP c m false) fa fb) := by
  obtain ⟨C, f, fd, ps, F, hC, h1, h2, h3'⟩ := F.ex
  exact ae_cmp (op_prN F (cx.room.mono hk) (cx.room.mono h3) h1 h2 h3' (fun pins σ H s e s' I z => by obtain ⟨_, _, _, _, _, _, _, _, _, _, _, _, z⟩ := z; exact z.elim)) (prPA hC) ha hb (nomark _)
theorem at_prN (F : EqA (gx X) X.prog X.w X.base k c m) (cx : Ctx X W lv) (ha : AE X W a fa) (hb : AE X W b fb) (hk : k + 1 ≤ lv := by decide) (h3 : 3 ≤ lv := by decide) : AT X W (.Compare a [.NotEq] [b] pos) (bB (e2 (prP c m false) fa fb)) := by
  obtain ⟨C, f, fd, ps, F, hC, h1, h2, h3'⟩ := F.ex
  exact at_cmp (op_prN F (cx.room.mono hk) (cx.room.mono h3) h1 h2 h3' (fun pins σ H s e s' I z => by obtain ⟨_, _, _, _, _, _, _, _, _, _, _, _, z⟩ := z; exact z.elim)) (prPA hC) ha hb (nomark _)
theorem ae_prE (F : EqA (gx X) X.prog X.w X.base k c m) (cx : Ctx X W lv) (ha : AE X W a fa) (hb : AE X W b fb) (hk : k + 1 ≤ lv := by decide) (h3 : 3 ≤ lv := by decide) : AE X W (.Compare a [.Eq] [b] pos) (e2 (prP c m true) fa fb) := by
  obtain ⟨C, f, fd, ps, F, hC, h1, h2, h3'⟩ := F.ex
  exact ae_cmp (op_prE F (cx.room.mono hk) (cx.room.mono h3) h1 h2 h3' (fun pins σ H s e s' I z => by obtain ⟨_, _, _, _, _, _, _, _, _, _, _, _, z⟩ := z; exact z.elim)) (prPA hC) ha hb (nomark _)
theorem at_prE (F : EqA (gx X) X.prog X.w X.base k c m) (cx : Ctx X W lv) (ha : AE X W a fa) (hb : AE X W b fb) (hk : k + 1 ≤ lv := by decide) (h3 : 3 ≤ lv := by decide) : AT X W (.Compare a [.Eq] [b] pos) (bB (e2 (prP c m true) fa fb)) := by
  obtain ⟨C, f, fd, ps, F, hC, h1, h2, h3'⟩ := F.ex
  exact at_cmp (op_prE F (cx.room.mono hk) (cx.room.mono h3) h1 h2 h3' (fun pins σ H s e s' I z => by obtain ⟨_, _, _, _, _, _, _, _, _, _, _, _, z⟩ := z; exact z.elim)) (prPA hC) ha hb (nomark _)
end
end TK

set_option Elab.async false
set_option linter.all false
set_option maxRecDepth 100000
set_option maxHeartbeats 4000000
namespace TK
open PySem PySem.Spec
open PyProof.Rows hiding St
open L2
/-! # dicts by int keys, by keys that are tuples -/
section
variable {κ : Type} [DecidableEq κ]
def getKs (f : D → Option κ) (k : κ) : List (D × D) → Option D
  | [] => none
  | (x, d) :: r => if f x = some k then some d else getKs f k r
def setKs (f : D → Option κ) (k : κ) (y : D) : List (D × D) → List (D × D)
  | [] => []
  | (x, d) :: r => (if f x = some k then (x, y) else (x, d)) :: setKs f k y r
def putKs (f : D → Option κ) (key : D) (k : κ) (y : D) (kvs : List (D × D)) : List (D × D) := if (getKs f k kvs).isSome then setKs f k y kvs else kvs ++ [(key, y)]
variable {G : GX} {μ : List Addr} {H : Hp} {f : D → Option κ}
theorem relK_get {k : κ} : ∀ {kvs : List (D × D)} {ks : List (κ × V)}, RelK G μ H f kvs ks → (getKs f k kvs = none ∧ valV ks k = none) ∨ ∃ d v, getKs f k kvs = some d ∧ valV ks k = some v ∧ RelD G μ H d v
  | [], _, r => by cases r; exact .inl ⟨rfl, rfl⟩
  | (x, d) :: kvs, _, r => by
    obtain ⟨c, v, rest, rfl, ec, rd, rs⟩ := r
    by_cases e : c = k
    · subst e
      exact .inr ⟨d, v, by simp [getKs, ec], valV_pos rfl, rd⟩
    · have e' : ¬ f x = some k := fun q => e (by rw [ec] at q; exact Option.some.inj q)
      rw [valV_neg (p := (c, v)) e]
      simp only [getKs, if_neg e']
      exact relK_get rs
theorem relK_len : ∀ {kvs : List (D × D)} {ks : List (κ × V)}, RelK G μ H f kvs ks → ks.length = kvs.length
  | [], _, r => by cases r; rfl
  | (x, d) :: kvs, _, r => by obtain ⟨c, v, rest, rfl, _, _, rs⟩ := r; simp [relK_len rs]
theorem relK_set {k : κ} {y : D} {v : V} (ry : RelD G μ H y v) : ∀ {kvs : List (D × D)} {ks : List (κ × V)}, RelK G μ H f kvs ks → RelK G μ H f (setKs f k y kvs) (ks.map fun kv => if kv.1 = k then (kv.1, v) else kv)
  | [], _, r => by cases r; rfl
  | (x, d) :: kvs, _, r => by
    obtain ⟨c, w, rest, rfl, ec, rd, rs⟩ := r
    by_cases e : c = k
    · subst e
      simp only [setKs, ec, if_true, List.map_cons]
      exact ⟨c, v, _, rfl, ec, ry, relK_set ry rs⟩
    · have e' : ¬ f x = some k := fun q => e (by rw [ec] at q; exact Option.some.inj q)
      simp only [setKs, if_neg e', List.map_cons, if_neg e]
      exact ⟨c, w, _, rfl, ec, rd, relK_set ry rs⟩
theorem relK_snoc {key : D} {k : κ} {y : D} {v : V} (ek : f key = some k) (ry : RelD G μ H y v) : ∀ {kvs : List (D × D)} {ks : List (κ × V)}, RelK G μ H f kvs ks → RelK G μ H f (kvs ++ [(key, y)]) (ks ++ [(k, v)])
  | [], _, r => by cases r; exact ⟨k, v, [], rfl, ek, ry, rfl⟩
  | (x, d) :: kvs, _, r => by
    obtain ⟨c, w, rest, rfl, ec, rd, rs⟩ := r
    exact ⟨c, w, _, rfl, ec, rd, relK_snoc ek ry rs⟩
theorem any_val {k : κ} : ∀ {ks : List (κ × V)}, (ks.any fun kv => decide (kv.1 = k)) = (valV ks k).isSome
  | [] => rfl
  | (c, v) :: ks => by
    by_cases e : c = k
    · subst e; rw [valV_pos (p := (c, v)) rfl]; simp
    · rw [valV_neg (p := (c, v)) e, ← any_val]; simp [e]
theorem relK_put {key : D} {k : κ} {y : D} {v : V} (ek : f key = some k) (ry : RelD G μ H y v) {kvs : List (D × D)} {ks : List (κ × V)} (r : RelK G μ H f kvs ks) : RelK G μ H f (putKs f key k y kvs) (putK ks k v) := by
  unfold putKs putK
  rw [any_val]
  rcases relK_get (k := k) r with ⟨e1, e2⟩ | ⟨d, w, e1, e2, _⟩
  · rw [e1, e2]; exact relK_snoc ek ry r
  · rw [e1, e2]; exact relK_set ry r
end
theorem keyS_ok {G : GX} {μ : List Addr} {H : Hp} {d : D} {v : V} {k : Key} (r : RelD G μ H d v) (e : keyS d = some k) : v = kV k := by
  cases d <;> simp [keyS] at e
  · subst e; exact r
  · subst e; exact r
theorem keySs_ok {G : GX} {μ : List Addr} {H : Hp} : ∀ {ds : List D} {vs : List V} {ks : List Key}, RelDs G μ H ds vs → keySs ds = some ks → vs = ks.map kV
  | [], _, _, r, e => by cases r; simp [keySs] at e; subst e; rfl
  | d :: ds, _, ks, r, e => by
    obtain ⟨v, rest, rfl, rd, rs⟩ := r
    simp only [keySs] at e
    split at e
    · rename_i k ks' e1 e2
      cases e
      rw [List.map_cons, ← keyS_ok rd e1, ← keySs_ok rs e2]
    · cases e
theorem keyT_ok {G : GX} {μ : List Addr} {H : Hp} {d : D} {v : V} {k : List Key} (r : RelD G μ H d v) (e : keyT d = some k) : ∃ b, v = .ref b ∧ H b = some (.tup (k.map kV)) := by
  cases d with
  | tup ds =>
    obtain ⟨b, vs, rfl, hb, rs⟩ := r
    have e : keySs ds = some k := e
    rw [keySs_ok rs e] at hb
    exact ⟨b, rfl, hb⟩
  | _ => simp [keyT] at e
def isDct (d : D) (st : Store) : Bool := match d with
  | .ref n => (match st[n]? with | some (.dct _) => true | some (.dcT _) => true | _ => false)
  | _ => false
def dgetD (x i d : D) (st : Store) : R D := match x with
  | .ref n => (match st[n]? with
    | some (.dct kvs) => (match keyS i with | some k => .ok ((getKs keyS k kvs).getD d) st | none => .bad)
    | some (.dcT kvs) => (match keyT i with | some k => .ok ((getKs keyT k kvs).getD d) st | none => .bad)
    | _ => .bad)
  | _ => .bad
def eDget (fo fi fd : EF) : EF := fun env st => (fo env st).bind fun x st1 => if isDct x st1 then (fi env st1).bind fun i st2 => (fd env st2).bind fun d st3 => dgetD x i d st3 else .bad
def dputR (n : Nat) (i y : D) (env : AEnv) (st : Store) : RS := match st[n]? with
  | some (.dct kvs) => (match keyS i with | some k => if kvs.length < sizeLine then .next env (st.set n (.dct (putKs keyS i k y kvs))) else .bad | none => .bad)
  | some (.dcT kvs) => (match keyT i with | some k => if kvs.length < sizeLine then .next env (st.set n (.dcT (putKs keyT i k y kvs))) else .bad | none => .bad)
  | _ => .bad
def sDput (fo fi fe : EF) : SF := fun env st => sOf (fe env st) env fun y st1 => sOf (fo env st1) env fun x st2 => sOf (fi env st2) env fun i st3 => match x with
  | .ref n => dputR n i y env st3
  | _ => .bad
def eDctT : EF := fun _ st => .ok (.ref st.length) (st ++ [.dcT []])
section
variable {X : Cx} {W : WX} {o i e d : Expr} {fo fi fe fd : EF} {pos pos' : Pos} {lv : Nat}
theorem ae_dctT : AE X W (.Dict [] [] pos) eDctT := pe_dnewT.weak fun σ H Q ⟨μ, env, st, hs, er, p⟩ => fun q hq => by
  have hn : q ∉ μ := hs.fresh hq
  refine p (μ ++ [q]) (upd H q (.dT [])) _ ((Ext.new hq).adopt hq hn) ((hs.new hq).adopt upd_same hn ⟨[], rfl, rfl⟩) ⟨q, ?_, rfl⟩
  rw [← hs.len, List.getElem?_append_right (Nat.le_refl _)]; simp
theorem ae_dget {apos cpos : Pos} (cx : Ctx X W lv) (ho : AE X W o fo) (hi : AE X W i fi) (hd : AE X W d fd) (hb : attributeBase o "get" X.env (eval o X.env) = eval o X.env := by rfl)
    (hf : ((backTo cpos (starEach [i, d] X.env)).all (fun x => !x.1) && (backToKw cpos (keywordEach [] X.env)).all (fun x => x.1.isSome) && decide (([i, d] : List Expr).length + ([] : List Keyword).length + (if ([] : List Keyword).isEmpty then 0 else 1) < 30)) = true := by rfl)
    (hl : (apos.endLine == cpos.line) = true := by rfl) (ht : backTo cpos (starEach [i, d] X.env) = [(false, eval i X.env), (false, eval d X.env)] := by rfl) : AE X W (.Call (.Attribute o "get" apos) [i, d] [] cpos) (eDget fo fi fd) :=
  (pe_dget2 (by have := cx.room.units; omega) ho hi hd ⟨hb, hf, hl, ht⟩).weak fun σ H Q ⟨μ, env, st, hs, er, p⟩ => ⟨μ, env, st, hs, er, Post.bind p fun x st1 μ1 H1 v _ x1 hs1 r1 p1 => by
    split at p1
    · rename_i hx
      cases x with
      | ref n =>
        obtain ⟨a, e1, rfl⟩ := r1
        obtain ⟨ob, ho, e2, e3, ro⟩ := hs1.at e1
        have isd : IsD H1 a := by
          simp only [isDct, e2] at hx
          cases ob with
          | dct kvs => obtain ⟨ks, rfl, _⟩ := ro; exact .inl ⟨ks, .inl e3⟩
          | dcT kvs => obtain ⟨ks, rfl, _⟩ := ro; exact .inr ⟨ks, .inl e3⟩
          | _ => simp at hx
        refine ⟨a, rfl, isd, μ1, env, st1, hs1, er.ext hs x1, Post.bind p1 fun iv st2 μ2 H2 y _ x2 hs2 r2 p2 => ⟨μ2, env, st2, hs2, (er.ext hs x1).ext hs1 x2, Post.bind p2 fun dv st3 μ3 H3 z _ x3 hs3 r3 p3 => ?_⟩⟩
        have e4 : ∃ b, μ3[n]? = some b ∧ V.ref a = .ref b := (RelD.ext hs1 (x2.trans x3) (.ref n) _ ⟨a, e1, rfl⟩)
        obtain ⟨b, e4, eb⟩ := e4
        cases eb
        have r2 := RelD.ext hs2 x3 _ _ r2
        simp only [dgetD] at p3
        split at p3
        · rename_i kvs e5
          obtain ⟨_, h1, ks, rfl, rk⟩ := hs3.obj n a _ e4 e5
          split at p3
          · rename_i k ek
            have := keyS_ok r2 ek
            subst this
            rcases relK_get (k := k) rk with ⟨g1, g2⟩ | ⟨d', w, g1, g2, g3⟩
            · rw [g1] at p3
              exact ⟨_, .k h1, by rw [g2]; exact p3 μ3 H3 _ .refl hs3 r3⟩
            · rw [g1] at p3
              exact ⟨_, .k h1, by rw [g2]; exact p3 μ3 H3 _ .refl hs3 g3⟩
          · exact p3.elim
        · rename_i kvs e5
          obtain ⟨_, h1, ks, rfl, rk⟩ := hs3.obj n a _ e4 e5
          split at p3
          · rename_i k ek
            obtain ⟨b, rfl, hb⟩ := keyT_ok r2 ek
            rcases relK_get (k := k) rk with ⟨g1, g2⟩ | ⟨d', w, g1, g2, g3⟩
            · rw [g1] at p3
              exact ⟨_, .t h1 hb, by rw [g2]; exact p3 μ3 H3 _ .refl hs3 r3⟩
            · rw [g1] at p3
              exact ⟨_, .t h1 hb, by rw [g2]; exact p3 μ3 H3 _ .refl hs3 g3⟩
          · exact p3.elim
        · exact p3.elim
      | _ => simp [isDct] at hx
    · exact p1.elim⟩
theorem as_dput {spos : Pos} (cx : Ctx X W lv) (ho : AE X W o fo) (hi : AE X W i fi) (he : AE X W e fe) (hs : swapsWith e (some (.Subscript o i pos')) spos.line X.env = pure false := by rfl) : AS X W (.Assign [.Subscript o i pos'] e spos) (sDput fo fi fe) :=
  (ps_dput (by have := cx.room.units; omega) ho hi he hs).weak fun Dn σ H ⟨μ, env, st, hs, er, p⟩ => ⟨μ, env, st, hs, er, PostS.bind p hs er fun y st1 μ1 H1 v _ x1 hs1 r1 p1 =>
    ⟨μ1, env, st1, hs1, er.ext hs x1, PostS.bind p1 hs1 (er.ext hs x1) fun x st2 μ2 H2 ov _ x2 hs2 r2 p2 => ⟨μ2, env, st2, hs2, (er.ext hs x1).ext hs1 x2, PostS.bind p2 hs2 ((er.ext hs x1).ext hs1 x2) fun i st3 μ3 H3 iv _ x3 hs3 r3 p3 => by
      have r2 := RelD.ext hs2 x3 _ _ r2
      have r1 := RelD.ext hs1 (x2.trans x3) _ _ r1
      have er3 := ((er.ext hs x1).ext hs1 x2).ext hs2 x3
      split at p3
      · rename_i n
        obtain ⟨a, e1, rfl⟩ := r2
        unfold dputR at p3
        split at p3
        · rename_i kvs e2
          obtain ⟨_, h1, ks, rfl, rk⟩ := hs3.obj _ a _ e1 e2
          split at p3
          · rename_i k ek
            split at p3
            · rename_i hz
              have := keyS_ok r3 ek
              subst this
              exact ⟨a, _, rfl, .k h1 (by rw [relK_len rk]; exact hz), p3 μ3 _ σ (.put e1 h1) (hs3.put e1 ⟨_, rfl, relK_put ek r1 rk⟩) (er3.wr (hs3.noTupAt e1))⟩
            · exact p3.elim
          · exact p3.elim
        · rename_i kvs e2
          obtain ⟨_, h1, ks, rfl, rk⟩ := hs3.obj _ a _ e1 e2
          split at p3
          · rename_i k ek
            split at p3
            · rename_i hz
              obtain ⟨b, rfl, hb⟩ := keyT_ok r3 ek
              exact ⟨a, _, rfl, .t h1 hb (by rw [relK_len rk]; exact hz), p3 μ3 _ σ (.put e1 h1) (hs3.put e1 ⟨_, rfl, relK_put ek r1 rk⟩) (er3.wr (hs3.noTupAt e1))⟩
            · exact p3.elim
          · exact p3.elim
        · exact p3.elim
      · exact p3.elim⟩⟩⟩
end
@[simp] theorem eDctT_ap (env : AEnv) (st : Store) : eDctT env st = .ok (.ref st.length) (st ++ [.dcT []]) := rfl
@[simp] theorem eDget_ap (fo fi fd : EF) (env : AEnv) (st : Store) : eDget fo fi fd env st = ((fo env st).bind fun x st1 => if isDct x st1 then (fi env st1).bind fun i st2 => (fd env st2).bind fun d st3 => dgetD x i d st3 else .bad) := (Eq.refl _).trans rfl
@[simp] theorem sDput_ap (fo fi fe : EF) (env : AEnv) (st : Store) : sDput fo fi fe env st = (sOf (fe env st) env fun y st1 => sOf (fo env st1) env fun x st2 => sOf (fi env st2) env fun i st3 => match x with
  | .ref n => dputR n i y env st3
  | _ => .bad) := (Eq.refl _).trans rfl
end TK

set_option Elab.async false
set_option linter.all false
set_option maxRecDepth 100000
set_option maxHeartbeats 4000000
namespace TK
open PySem PySem.Spec
open PyProof.Rows hiding St
open L2
/-! # xs.insert(i, y) -/
section
variable {X : Cx} {W : WX} {o e e' : Expr} {fo : EF} {fr : LF} {pos : Pos}
def insertG (x : D) (ds : List D) (st : Store) : R D := match x, ds with
  | .ref n, [.int i, d] => (match st[n]? with
    | some (.lst xs) => if xs.length < sizeLine ∧ 0 ≤ i ∧ i < 2 ^ 63 then .ok .non (st.set n (.lst (xs.take i.toNat ++ [d] ++ xs.drop i.toNat))) else .bad
    | _ => .bad)
  | _, _ => .bad
theorem insertA {G : GX} : MetA G insertG (fun x vs H Q => ∃ (l : Addr) (xs : List V) (i : Int) (y : V), x = .ref l ∧ vs = [.int i, y] ∧ H l = some (.lst xs) ∧ xs.length < sizeLine ∧ 0 ≤ i ∧ i < 2 ^ 63 ∧
    Q .non (upd H l (.lst (xs.take i.toNat ++ [y] ++ xs.drop i.toNat)))) := by
  intro W σ μ H st x ds v vs Q hs rx rs p
  unfold insertG at p
  split at p
  · rename_i i d
    obtain ⟨y0, rest, rfl, rd0, e0⟩ := rs
    cases rd0
    obtain ⟨y, rest, rfl, rd, e0⟩ := e0
    cases e0
    obtain ⟨a, e1, rfl⟩ := rx
    split at p
    · rename_i xs e2
      obtain ⟨_, h1, us, rfl, ru⟩ := hs.obj _ a _ e1 e2
      split at p
      · rename_i hz
        exact ⟨a, us, i, y, rfl, rfl, h1, by rw [ru.length]; exact hz.1, hz.2.1, hz.2.2, p μ _ _ (.put e1 h1) (hs.put e1 ⟨_, rfl, ((ru.take i.toNat).append (.one rd)).append (ru.drop i.toNat)⟩) rfl⟩
      · exact p.elim
    · exact p.elim
  · exact p.elim
theorem ae_insert {apos cpos : Pos} (ho : AE X W o fo) (ha : AA X W [e, e'] fr) (hbase : attributeBase o "insert" X.env (eval o X.env) = eval o X.env := by rfl)
    (hfew : ((backTo cpos (starEach [e, e'] X.env)).all (fun x => !x.1) && (backToKw cpos (keywordEach [] X.env)).all (fun x => x.1.isSome)
      && decide (([e, e'] : List Expr).length + ([] : List Keyword).length + (if ([] : List Keyword).isEmpty then 0 else 1) < 30)) = true := by rfl)
    (hline : (apos.endLine == cpos.line) = true := by rfl) (hs : starEach [e, e'] X.env = (false, eval e X.env) :: starEach [e'] X.env := by rfl) (hplain : (backTo cpos (starEach [e'] X.env)).any (·.1) = false := by rfl) : AE X W (.Call (.Attribute o "insert" apos) [e, e'] [] cpos) (eM isLst insertG fo fr) :=
  ae_bm PySem.F.plainAttrs_list PySem.F.slot_list_insert PySem.F.type_list_insert mt_insert tyLst insertA ho ha hbase hfew hline hs hplain
/-! ## d[key] -/
def datD (x i : D) (st : Store) : R D := match x with
  | .ref n => (match st[n]? with
    | some (.dct kvs) => (match keyS i with | some k => (match getKs keyS k kvs with | some d => .ok d st | none => .bad) | none => .bad)
    | some (.dcT kvs) => (match keyT i with | some k => (match getKs keyT k kvs with | some d => .ok d st | none => .bad) | none => .bad)
    | _ => .bad)
  | _ => .bad
def eDat (fo fi : EF) : EF := fun env st => (fo env st).bind fun x st1 => (fi env st1).bind fun i st2 => datD x i st2
theorem ae_dat {lv : Nat} {i : Expr} {fi : EF} (cx : Ctx X W lv) (ho : AE X W o fo) (hi : AE X W i fi) (hs : NoSl i := by exact fun _ _ => rfl) : AE X W (.Subscript o i pos) (eDat fo fi) :=
  (pe_dget (by have := cx.room.units; omega) ho hi hs).weak fun σ H Q ⟨μ, env, st, hs, er, p⟩ => ⟨μ, env, st, hs, er, Post.bind p fun x st1 μ1 H1 v _ x1 hs1 r1 p1 =>
    ⟨μ1, env, st1, hs1, er.ext hs x1, Post.bind p1 fun iv st2 μ2 H2 y _ x2 hs2 r2 p2 => by
      have r1 := RelD.ext hs1 x2 _ _ r1
      simp only [datD] at p2
      split at p2
      · obtain ⟨a, e4, rfl⟩ := r1
        split at p2
        · rename_i kvs e5
          obtain ⟨_, h1, ks, rfl, rk⟩ := hs2.obj _ a _ e4 e5
          split at p2
          · rename_i k ek
            have := keyS_ok r2 ek
            subst this
            rcases relK_get (k := k) rk with ⟨g1, g2⟩ | ⟨d', w, g1, g2, g3⟩
            · rw [g1] at p2
              exact p2.elim
            · rw [g1] at p2
              exact ⟨a, w, rfl, by rw [← g2]; exact .k h1, p2 μ2 H2 _ .refl hs2 g3⟩
          · exact p2.elim
        · rename_i kvs e5
          obtain ⟨_, h1, ks, rfl, rk⟩ := hs2.obj _ a _ e4 e5
          split at p2
          · rename_i k ek
            obtain ⟨b, rfl, hb⟩ := keyT_ok r2 ek
            rcases relK_get (k := k) rk with ⟨g1, g2⟩ | ⟨d', w, g1, g2, g3⟩
            · rw [g1] at p2
              exact p2.elim
            · rw [g1] at p2
              exact ⟨a, w, rfl, by rw [← g2]; exact .t h1 hb, p2 μ2 H2 _ .refl hs2 g3⟩
          · exact p2.elim
        · exact p2.elim
      · exact p2.elim⟩⟩
end
@[simp] theorem eDat_ap (fo fi : EF) (env : AEnv) (st : Store) : eDat fo fi env st = ((fo env st).bind fun x st1 => (fi env st1).bind fun i st2 => datD x i st2) := (Eq.refl _).trans rfl
end TK

set_option Elab.async false
set_option linter.all false
set_option maxRecDepth 100000
set_option maxHeartbeats 4000000
namespace TK
open PySem PySem.Spec
open PyProof.Rows hiding St
open L2
/-! # comprehensions with two fors: the list stands in the store while it grows -/
open Classical in
noncomputable def cmpI (n : Nat) (t : Tgt) (c : BF) (elt : EF) (g : Its) : List D → AEnv → Store → R D
  | [], _, st => .ok .non st
  | d :: ds, env, st => match asgT t d env with
    | none => .bad
    | some env1 => (c env1 st).bind fun b st1 => if b then (elt env1 st1).bind fun y st2 => (match st2[n]? with
        | some (.lst xs) => if xs.length < sizeLine ∧ gOK g (st2.set n (.lst (xs ++ [y]))) then cmpI n t c elt g ds env (st2.set n (.lst (xs ++ [y]))) else .bad
        | _ => .bad)
      else (if gOK g st1 then cmpI n t c elt g ds env st1 else .bad)
open Classical in
noncomputable def cmpO (n : Nat) (vs1 : List Nat) (t : Tgt) (c : BF) (fi1 : IF) (t1 : Tgt) (c1 : BF) (elt : EF) (g : Its) : List D → AEnv → Store → R D
  | [], _, st => .ok .non st
  | d :: ds, env, st => match asgT t d env with
    | none => .bad
    | some env1 => (c env1 st).bind fun b st1 => if b then (fi1 env1 st1).bind fun g1 st2 => (if gOK g1 st2 then (cmpI n t1 c1 elt g1 g1.1 (wipeE env1 vs1) st2).bind fun _ st3 =>
        (if gOK g st3 then cmpO n vs1 t c fi1 t1 c1 elt g ds env st3 else .bad) else .bad)
      else (if gOK g st1 then cmpO n vs1 t c fi1 t1 c1 elt g ds env st1 else .bad)
open Classical in
noncomputable def eComp2 (vs vs1 : List Nat) (fi : IF) (t : Tgt) (c : BF) (fi1 : IF) (t1 : Tgt) (c1 : BF) (elt : EF) : EF := fun env st => (fi env st).bind fun g st1 => if gOK g (st1 ++ [.lst []]) then
    (match cmpO st1.length vs1 t c fi1 t1 c1 elt g g.1 (wipeE env vs) (st1 ++ [.lst []]) with
    | .ok _ st2 => .ok (.ref st1.length) st2
    | _ => .bad) else .bad
section
variable {X : Cx} {W : WX} {elt tg iter tg1 iter1 : Expr} {ifs ifs1 : List Expr} {scope : Scope} {own : List (Str × Nat)} {pos : Pos} {fi fi1 : IF} {t t1 : Tgt} {fc fc1 : BF} {fe : EF} {lv : Nat}
theorem Ext.at_ {μ μ' : List Addr} {H H' : Hp} {n : Nat} {D : Addr} (x : Ext μ H μ' H') (h : μ[n]? = some D) : μ'[n]? = some D := by
  obtain ⟨ν, rfl, _⟩ := x
  rw [List.getElem?_append_left (List.getElem?_eq_some_iff.mp h).1]
  exact h
theorem comp_t2 {vs vs1 : List Nat} (hv : ∀ i ∈ slotsT t, i ∈ vs) (hv1 : ∀ i ∈ slotsT t1, i ∈ vs1) {σ : St} {H : Hp} {Q : VK} (h : tG (gx X) W (relD (gx X)) (eComp2 vs vs1 fi t fc fi1 t1 fc1 fe) σ H Q) :
    tLc2 (tG (gx X) W (relI (gx X)) fi) (gT X.K t) (tG (gx X) W0 relB fc) (tG (gx X) W0 (relI (gx X)) fi1) (gT X.K t1) (tG (gx X) W0 relB fc1) (tG (gx X) W0 (relD (gx X)) fe) vs vs1 σ H Q := by
  obtain ⟨μ, env, st, hs, er, p⟩ := h
  refine ⟨μ, env, st, hs, er, Post.bind0 p fun g st1 μ1 H1 J _ x1 hs1 ir p1 D hD => ?_⟩
  split at p1
  · rename_i gg
    have whole : ∃ u stN, cmpO st1.length vs1 t fc fi1 t1 fc1 fe g g.1 (wipeE env vs) (st1 ++ [.lst []]) = .ok u stN ∧ Post (gx X) W (relD (gx X)) σ μ H (.ok (.ref st1.length) stN) Q := by
      cases q : cmpO st1.length vs1 t fc fi1 t1 fc1 fe g g.1 (wipeE env vs) (st1 ++ [.lst []]) with
      | ok u stN => rw [q] at p1; exact ⟨u, stN, rfl, p1⟩
      | exc x s => rw [q] at p1; exact p1.elim
      | bad => rw [q] at p1; exact p1.elim
    obtain ⟨u, stN, eN, pN⟩ := whole
    obtain ⟨hs0, xp⟩ := hs1.push (p := D) (o := .lst []) (ao := AO.lst []) hD ⟨[], rfl, rfl⟩
    have hn0 : (μ1 ++ [D])[st1.length]? = some D := by rw [← hs1.len]; exact List.getElem?_concat_length
    refine ⟨fun i m H2 => i + m = g.1.length ∧ ∃ μ2 st2, Ext (μ1 ++ [D]) (upd H1 D (.lst [])) μ2 H2 ∧ HS (gx X) μ2 H2 st2 ∧ gOK g st2 ∧
        cmpO st1.length vs1 t fc fi1 t1 fc1 fe g (g.1.drop i) (wipeE env vs) st2 = .ok u stN,
      ⟨g.1.length, by omega, μ1 ++ [D], st1 ++ [AO.lst []], .refl, hs0, gg, by rw [List.drop_zero]; exact eN⟩, fun i m H2 w => ?_⟩
    obtain ⟨em, μ2, st2, y2, hs2, g2, e2⟩ := w
    have x2 := xp.trans y2
    by_cases hi : i < g.1.length
    · refine .inr ⟨ir.go μ2 H2 st2 x2 hs2 g2 i hi, fun H' => ∃ m', m' < m ∧ i + 1 + m' = g.1.length ∧ ∃ μ2 st2, Ext (μ1 ++ [D]) (upd H1 D (.lst [])) μ2 H' ∧ HS (gx X) μ2 H' st2 ∧ gOK g st2 ∧
        cmpO st1.length vs1 t fc fi1 t1 fc1 fe g (g.1.drop (i + 1)) (wipeE env vs) st2 = .ok u stN,
        fun H' n => by obtain ⟨m', h1, h2, h3⟩ := n; exact ⟨m', h1, h2, h3⟩, fun x H3 y => ?_⟩
      obtain ⟨d, ed, x3, hs3, rd⟩ := ir.yld μ2 H2 st2 x2 hs2 g2 i x H3 hi y
      have edrop : g.1.drop i = d :: g.1.drop (i + 1) := by
        rw [List.drop_eq_getElem_cons hi]
        rw [List.getElem?_eq_getElem hi] at ed
        cases ed; rfl
      rw [edrop] at e2
      unfold cmpO at e2
      split at e2
      · cases e2
      · rename_i env3 e3
        refine gT_ok (G := gx X) t (((er.ext hs x1).wipe vs).ext hs1 (x2.trans x3)) rd e3 fun σ3 er3 hw => ⟨by rw [hw vs hv, wipe_wipe], μ2, env3, st2, hs3, er3, ?_⟩
        cases qc : fc env3 st2 with
        | exc x s => rw [qc] at e2; cases e2
        | bad => rw [qc] at e2; cases e2
        | ok b st4 =>
          rw [qc, R.bind_ok] at e2
          intro μ4 H4 v4 x4 hs4 r4
          have r4 : v4 = b := r4
          subst r4
          cases v4 with
          | false =>
            rw [if_neg (by decide)] at e2 ⊢
            split at e2
            · rename_i g4
              exact ⟨m - 1, by omega, by omega, μ4, st4, (y2.trans x3).trans x4, hs4, g4, e2⟩
            · cases e2
          | true =>
            rw [if_pos rfl] at e2 ⊢
            refine ⟨μ4, env3, st4, hs4, er3.ext hs3 x4, ?_⟩
            cases qi : fi1 env3 st4 with
            | exc x s => rw [qi] at e2; cases e2
            | bad => rw [qi] at e2; cases e2
            | ok g1 st5 =>
              rw [qi, R.bind_ok] at e2
              split at e2
              · rename_i g15
                intro μ5 H5 J1 x5 hs5 ir5
                cases qL : cmpI st1.length t1 fc1 fe g1 g1.1 (wipeE env3 vs1) st5 with
                | exc x s => rw [qL] at e2; cases e2
                | bad => rw [qL] at e2; cases e2
                | ok z st6 =>
                  rw [qL, R.bind_ok] at e2
                  split at e2
                  · rename_i g6
                    have er5 := (er3.ext hs3 x4).ext hs4 x5
                    have y5 := ((y2.trans x3).trans x4).trans x5
                    have hn5 := Ext.at_ y5 hn0
                    refine ⟨fun j k H2 => j + k = g1.1.length ∧ ∃ μ6 st8, Ext μ5 H5 μ6 H2 ∧ HS (gx X) μ6 H2 st8 ∧ gOK g1 st8 ∧
                          cmpI st1.length t1 fc1 fe g1 (g1.1.drop j) (wipeE env3 vs1) st8 = .ok z st6,
                        ⟨g1.1.length, by omega, μ5, st5, .refl, hs5, g15, qL⟩, fun j k H6 w1 => ?_⟩
                    obtain ⟨ek, μ6, st8, y6, hs6, g16, e6⟩ := w1
                    by_cases hj : j < g1.1.length
                    · refine .inr ⟨ir5.go μ6 H6 st8 y6 hs6 g16 j hj, fun H' => ∃ k', k' < k ∧ j + 1 + k' = g1.1.length ∧ ∃ μ6 st8, Ext μ5 H5 μ6 H' ∧ HS (gx X) μ6 H' st8 ∧ gOK g1 st8 ∧
                            cmpI st1.length t1 fc1 fe g1 (g1.1.drop (j + 1)) (wipeE env3 vs1) st8 = .ok z st6,
                          fun H' n => by obtain ⟨m', h1, h2, h3⟩ := n; exact ⟨m', h1, h2, h3⟩, fun x H7 y => ?_⟩
                      obtain ⟨d', ed', x7, hs7, rd'⟩ := ir5.yld μ6 H6 st8 y6 hs6 g16 j x H7 hj y
                      have edrop' : g1.1.drop j = d' :: g1.1.drop (j + 1) := by
                        rw [List.drop_eq_getElem_cons hj]
                        rw [List.getElem?_eq_getElem hj] at ed'
                        cases ed'; rfl
                      rw [edrop'] at e6
                      unfold cmpI at e6
                      split at e6
                      · cases e6
                      · rename_i env8 e8
                        refine gT_ok (G := gx X) t1 (((er5.wipe vs1).ext hs5 y6).ext hs6 x7) rd' e8 fun σ8 er8 hw8 => ⟨by rw [hw8 vs1 hv1, wipe_wipe], μ6, env8, st8, hs7, er8, ?_⟩
                        cases qc8 : fc1 env8 st8 with
                        | exc x s => rw [qc8] at e6; cases e6
                        | bad => rw [qc8] at e6; cases e6
                        | ok b st9 =>
                          rw [qc8, R.bind_ok] at e6
                          intro μ9 H9 v9 x9 hs9 r9
                          have r9 : v9 = b := r9
                          subst r9
                          cases v9 with
                          | false =>
                            rw [if_neg (by decide)] at e6 ⊢
                            split at e6
                            · rename_i g9
                              exact ⟨k - 1, by omega, by omega, μ9, st9, (y6.trans x7).trans x9, hs9, g9, e6⟩
                            · cases e6
                          | true =>
                            rw [if_pos rfl] at e6 ⊢
                            refine ⟨μ9, env8, st9, hs9, er8.ext hs7 x9, ?_⟩
                            cases qe : fe env8 st9 with
                            | exc x s => rw [qe] at e6; cases e6
                            | bad => rw [qe] at e6; cases e6
                            | ok yd st10 =>
                              rw [qe, R.bind_ok] at e6
                              intro μ10 H10 v10 x10 hs10 r10
                              split at e6
                              · rename_i xs hxs
                                split at e6
                                · rename_i gz
                                  have y10 := ((y6.trans x7).trans x9).trans x10
                                  have hn10 := Ext.at_ y10 hn5
                                  obtain ⟨o0, ho, q1, q2, q3⟩ := hs10.at hn10
                                  rw [hxs] at q1
                                  cases q1
                                  obtain ⟨vs0, rfl, q4⟩ := q3
                                  exact ⟨vs0, q2, by rw [q4.length]; exact gz.1, k - 1, by omega, by omega, μ10, st10.set st1.length (.lst (xs ++ [yd])), y10.trans (Ext.put hn10 q2), hs10.put hn10 ⟨vs0 ++ [v10], rfl, q4.append (.one r10)⟩, gz.2, e6⟩
                                · cases e6
                              · cases e6
                    · have e0 : j = g1.1.length := by omega
                      subst e0
                      rw [List.drop_length] at e6
                      cases e6
                      exact .inl ⟨ir5.stop μ6 H6 _ y6 hs6 g16, m - 1, by omega, by omega, μ6, _, y5.trans y6, hs6, g6, e2⟩
                  · cases e2
              · cases e2
    · have e0 : i = g.1.length := by omega
      subst e0
      rw [List.drop_length] at e2
      cases e2
      exact .inl ⟨ir.stop μ2 H2 _ x2 hs2 g2, pN μ2 H2 _ (x1.trans x2) hs2 ⟨D, Ext.at_ y2 hn0, rfl⟩⟩
  · exact p1.elim
theorem ae_comp2 (c : Ctx X W lv) (hi : AI X W tg iter fi) (own : List (Str × Nat)) (vs1 : List Nat) (ok : BlkOk X.N X.env.scope scope own)
    (hg : ∀ s H C cl fp, AG (bX X scope s H C cl fp) tg t) (hc : ∀ s H C cl fp, ATs (bX X scope s H C cl fp) W0 ifs fc)
    (hi1 : ∀ s H C cl fp, AI (bX X scope s H C cl fp) W0 tg1 iter1 fi1) (hg1 : ∀ s H C cl fp, AG (bX X scope s H C cl fp) tg1 t1) (hc1 : ∀ s H C cl fp, ATs (bX X scope s H C cl fp) W0 ifs1 fc1)
    (he : ∀ s H C cl fp, AE (bX X scope s H C cl fp) W0 elt fe)
    (hv0 : ∀ i ∈ vs1, i ∈ own.map (·.2) := by decide) (hv : ∀ i ∈ slotsT t, i ∈ own.map (·.2) := by decide) (hv1 : ∀ i ∈ slotsT t1, i ∈ vs1 := by decide) (hs : ∀ x, foldedSetIterable iter X.env x = pure x := by intro _; rfl) (hs1 : ∀ env x, foldedSetIterable iter1 env x = pure x := by intro _ _; rfl) :
    AE X W (.ListComp elt [⟨tg, iter, ifs, 0⟩, ⟨tg1, iter1, ifs1, 0⟩] scope pos) (eComp2 (own.map (·.2)) vs1 fi t fc fi1 t1 fc1 fe) :=
  (pe_lc2 (g := gT X.K t) (tt := tG (gx X) W0 relB fc) (wi1 := tG (gx X) W0 (relI (gx X)) fi1) (g1 := gT X.K t1) (tt1 := tG (gx X) W0 relB fc1) (te := tG (gx X) W0 (relD (gx X)) fe) c.calm c.nd hi ok hv0 hg hc hi1 hg1 hc1 he hs hs1).weak fun σ H Q h => comp_t2 hv hv1 h
theorem as_setLc2 {spos py : Pos} {y : Str} (c : Ctx X W lv) (i : Nat) (hi : AI X W tg iter fi) (own : List (Str × Nat)) (vs1 : List Nat) (ok : BlkOk X.N X.env.scope scope own)
    (hg : ∀ s H C cl fp, AG (bX X scope s H C cl fp) tg t) (hc : ∀ s H C cl fp, ATs (bX X scope s H C cl fp) W0 ifs fc)
    (hi1 : ∀ s H C cl fp, AI (bX X scope s H C cl fp) W0 tg1 iter1 fi1) (hg1 : ∀ s H C cl fp, AG (bX X scope s H C cl fp) tg1 t1) (hc1 : ∀ s H C cl fp, ATs (bX X scope s H C cl fp) W0 ifs1 fc1)
    (he : ∀ s H C cl fp, AE (bX X scope s H C cl fp) W0 elt fe)
    (hsw : swapsWith (.ListComp elt [⟨tg, iter, ifs, 0⟩, ⟨tg1, iter1, ifs1, 0⟩] scope pos) (some (.Name y py)) spos.line X.env = pure true) (hy : X.N[i]? = some y := by rfl) (hyl : X.env.scope.names.lookup y = some .local := by rfl)
    (hv0 : ∀ i ∈ vs1, i ∈ own.map (·.2) := by decide) (hv : ∀ i ∈ slotsT t, i ∈ own.map (·.2) := by decide) (hv1 : ∀ i ∈ slotsT t1, i ∈ vs1 := by decide) (hs : ∀ x, foldedSetIterable iter X.env x = pure x := by intro _; rfl) (hs1 : ∀ env x, foldedSetIterable iter1 env x = pure x := by intro _ _; rfl) :
    AS X W (.Assign [.Name y py] (.ListComp elt [⟨tg, iter, ifs, 0⟩, ⟨tg1, iter1, ifs1, 0⟩] scope pos) spos) (sSet i (eComp2 (own.map (·.2)) vs1 fi t fc fi1 t1 fc1 fe)) :=
  (ps_setLc2 (g := gT X.K t) (tt := tG (gx X) W0 relB fc) (wi1 := tG (gx X) W0 (relI (gx X)) fi1) (g1 := gT X.K t1) (tt1 := tG (gx X) W0 relB fc1) (te := tG (gx X) W0 (relD (gx X)) fe) c.calm c.nd hy hyl hsw hi ok hv0 hg hc hi1 hg1 hc1 he hs hs1).weak fun Dn σ H ⟨μ, env, st, hst, er, p⟩ => by
    unfold tAsg gName
    refine comp_t2 hv hv1 ⟨μ, env, st, hst, er, ?_⟩
    exact PostS.bind p hst er fun d st1 μ1 H1 v _ x1 hs1 r1 p1 => p1 μ1 H1 _ .refl hs1 ((er.ext hst x1).set r1 i)
end
/-! ## their plain law -/
section
variable {n : Nat} {vs vs1 : List Nat} {fi fi1 : IF} {t t1 : Tgt} {c c1 : BF} {elt : EF} {g : Its} {env : AEnv} {st : Store}
theorem cmpI_ok {ds : List D} (I : Nat → Store → Prop) (h0 : I 0 st)
    (hs : ∀ i d st, I i st → ds[i]? = some d → ∃ env1, asgT t d env = some env1 ∧ ((∃ y s1 s2 xs, c env1 st = .ok true s1 ∧ elt env1 s1 = .ok y s2 ∧ s2[n]? = some (.lst xs) ∧ xs.length < sizeLine ∧ gOK g (s2.set n (.lst (xs ++ [y]))) ∧ I (i + 1) (s2.set n (.lst (xs ++ [y])))) ∨ ∃ s1, c env1 st = .ok false s1 ∧ gOK g s1 ∧ I (i + 1) s1)) :
    ∃ s, cmpI n t c elt g ds env st = .ok .non s ∧ I ds.length s := by
  have key : ∀ (r : List D) (i : Nat), ds.drop i = r → i + r.length = ds.length → ∀ st, I i st → ∃ s, cmpI n t c elt g r env st = .ok .non s ∧ I ds.length s := by
    intro r
    induction r with
    | nil =>
      intro i hd hl st hi
      have e : i = ds.length := by simpa using hl
      exact ⟨st, rfl, e ▸ hi⟩
    | cons d r ih =>
      intro i hd hl st hi
      have hd0 : ds[i]? = some d := by
        have : (ds.drop i)[0]? = some d := by rw [hd]; rfl
        simpa using this
      have hr : ds.drop (i + 1) = r := by rw [← List.drop_drop, hd]; rfl
      obtain ⟨env1, ea, hb⟩ := hs i d st hi hd0
      rcases hb with ⟨y, s1, s2, xs, h1, h2, h3, h4, h5, h6⟩ | ⟨s1, h1, h5, h6⟩
      · obtain ⟨s, e1, e2⟩ := ih (i + 1) hr (by simp at hl; omega) _ h6
        refine ⟨s, ?_, e2⟩
        unfold cmpI
        simp only [ea, h1, R.bind_ok, if_true, h2, h3]
        rw [if_pos ⟨h4, h5⟩, e1]
      · obtain ⟨s, e1, e2⟩ := ih (i + 1) hr (by simp at hl; omega) _ h6
        refine ⟨s, ?_, e2⟩
        unfold cmpI
        simp only [ea, h1, R.bind_ok, Bool.false_eq_true, if_false]
        rw [if_pos h5, e1]
  exact key ds 0 rfl (by simp) st h0
theorem cmpO_ok {ds : List D} (I : Nat → Store → Prop) (h0 : I 0 st)
    (hs : ∀ i d st, I i st → ds[i]? = some d → ∃ env1, asgT t d env = some env1 ∧ ((∃ g1 s1 s2 s3, c env1 st = .ok true s1 ∧ fi1 env1 s1 = .ok g1 s2 ∧ gOK g1 s2 ∧ cmpI n t1 c1 elt g1 g1.1 (wipeE env1 vs1) s2 = .ok .non s3 ∧ gOK g s3 ∧ I (i + 1) s3) ∨ ∃ s1, c env1 st = .ok false s1 ∧ gOK g s1 ∧ I (i + 1) s1)) :
    ∃ s, cmpO n vs1 t c fi1 t1 c1 elt g ds env st = .ok .non s ∧ I ds.length s := by
  have key : ∀ (r : List D) (i : Nat), ds.drop i = r → i + r.length = ds.length → ∀ st, I i st → ∃ s, cmpO n vs1 t c fi1 t1 c1 elt g r env st = .ok .non s ∧ I ds.length s := by
    intro r
    induction r with
    | nil =>
      intro i hd hl st hi
      have e : i = ds.length := by simpa using hl
      exact ⟨st, rfl, e ▸ hi⟩
    | cons d r ih =>
      intro i hd hl st hi
      have hd0 : ds[i]? = some d := by
        have : (ds.drop i)[0]? = some d := by rw [hd]; rfl
        simpa using this
      have hr : ds.drop (i + 1) = r := by rw [← List.drop_drop, hd]; rfl
      obtain ⟨env1, ea, hb⟩ := hs i d st hi hd0
      rcases hb with ⟨g1, s1, s2, s3, h1, h2, h3, h4, h5, h6⟩ | ⟨s1, h1, h5, h6⟩
      · obtain ⟨s, e1, e2⟩ := ih (i + 1) hr (by simp at hl; omega) _ h6
        refine ⟨s, ?_, e2⟩
        unfold cmpO
        simp only [ea, h1, R.bind_ok, if_true, h2]
        rw [if_pos h3, h4]
        simp only [R.bind_ok]
        rw [if_pos h5, e1]
      · obtain ⟨s, e1, e2⟩ := ih (i + 1) hr (by simp at hl; omega) _ h6
        refine ⟨s, ?_, e2⟩
        unfold cmpO
        simp only [ea, h1, R.bind_ok, Bool.false_eq_true, if_false]
        rw [if_pos h5, e1]
  exact key ds 0 rfl (by simp) st h0
theorem filter_take_map {α : Type} (p : D → Bool) (f : D → α) {ds : List D} {i : Nat} {d : D} (h : ds[i]? = some d) : ((ds.take (i + 1)).filter p).map f = ((ds.take i).filter p).map f ++ (if p d = true then [f d] else []) := by
  rw [List.take_add_one, h, List.filter_append, List.map_append]
  congr 1
  cases q : p d <;> simp [q]
/-- the inner list, where nothing else happens -/
theorem cmpI_map {ds xs : List D} (p : D → Bool) (f : D → D) (hn : st[n]? = some (.lst xs)) (hl : xs.length + ds.length ≤ sizeLine) (hg : ∀ zs, gOK g (st.set n (.lst zs)))
    (h : ∀ d ∈ ds, ∀ zs, ∃ env1, asgT t d env = some env1 ∧ c env1 (st.set n (.lst zs)) = .ok (p d) (st.set n (.lst zs)) ∧ (p d = true → elt env1 (st.set n (.lst zs)) = .ok (f d) (st.set n (.lst zs)))) :
    cmpI n t c elt g ds env st = .ok .non (st.set n (.lst (xs ++ (ds.filter p).map f))) := by
  have hnl := (List.getElem?_eq_some_iff.mp hn).1
  obtain ⟨s, e, rfl⟩ := cmpI_ok (n := n) (t := t) (c := c) (elt := elt) (g := g) (env := env) (st := st) (ds := ds) (fun i s => s = st.set n (.lst (xs ++ ((ds.take i).filter p).map f))) (by
    simp
    exact (List.ext_getElem? fun i => by
      by_cases q : n = i
      · subst q; rw [List.getElem?_set_self hnl]; exact hn
      · rw [List.getElem?_set_ne q])) fun i d s hI hd => by
    subst hI
    have hi := (List.getElem?_eq_some_iff.mp hd).1
    obtain ⟨env1, h1, h2, h3⟩ := h d (List.mem_of_getElem? hd) (xs ++ ((ds.take i).filter p).map f)
    refine ⟨env1, h1, ?_⟩
    have ft := filter_take_map p f hd
    cases q : p d with
    | true =>
      rw [q] at h2 ft
      refine .inl ⟨f d, _, _, xs ++ ((ds.take i).filter p).map f, h2, h3 q, by rw [List.getElem?_set_self hnl], ?_, ?_, ?_⟩
      · have h4 := List.length_filter_le p (ds.take i)
        rw [List.length_take] at h4
        simp only [List.length_append, List.length_map]
        omega
      · rw [List.set_set]; exact hg _
      · rw [List.set_set, ft]; simp
    | false =>
      rw [q] at h2 ft
      refine .inr ⟨_, h2, hg _, ?_⟩
      rw [ft]; simp
  rw [e, List.take_length]
theorem eComp2_ok {st1 st2 : Store} (h : fi env st = .ok g st1) (hg : gOK g (st1 ++ [.lst []])) (hc : cmpO st1.length vs1 t c fi1 t1 c1 elt g g.1 (wipeE env vs) (st1 ++ [.lst []]) = .ok .non st2) : eComp2 vs vs1 fi t c fi1 t1 c1 elt env st = .ok (.ref st1.length) st2 := by
  unfold eComp2
  rw [h, R.bind_ok, if_pos hg, hc]
end
end TK

set_option Elab.async false
set_option linter.all false
set_option maxRecDepth 100000
set_option maxHeartbeats 4000000
namespace TK
open PySem PySem.Spec
open PyProof.Rows hiding St
open L2
/-! # {k: v} -/
section
variable {X : Cx} {W : WX} {e k : Expr} {fe fk : EF} {pos : Pos}
def dct1D (x d : D) (st : Store) : R D := match keyS x with
  | some _ => .ok (.ref st.length) (st ++ [.dct [(x, d)]])
  | none => .bad
def eDct1 (fk fe : EF) : EF := fun env st => (fk env st).bind fun x st1 => (fe env st1).bind fun d st2 => dct1D x d st2
theorem ae_dct1 (hk : AE X W k fk) (he : AE X W e fe) : AE X W (.Dict [some k] [e] pos) (eDct1 fk fe) :=
  (pe_disp (pps_cons hk he pps_nil) (by rfl) (by rfl) (fun z => by cases z) (by simp)).weak fun σ H Q ⟨μ, env, st, hs, er, p⟩ => fun q hq => by
    have hn : q ∉ μ := hs.fresh hq
    have x0 : Ext μ H μ (upd H q (.dK [])) := .new hq
    have hs0 : HS (gx X) μ (upd H q (.dK [])) st := hs.new hq
    refine ⟨μ, env, st, hs0, er.ext hs x0, ?_⟩
    unfold eDct1 at p
    cases q1 : fk env st with
    | bad => rw [q1] at p; exact p.elim
    | exc x st1 => rw [q1] at p; exact fun μ' H' C od x1 h1 r1 => p μ' H' C od (x0.trans x1) h1 r1
    | ok x st1 =>
      rw [q1] at p
      intro μ1 H1 kv x1 hs1 r1
      refine ⟨μ1, env, st1, hs1, (er.ext hs x0).ext hs0 x1, ?_⟩
      cases q2 : fe env st1 with
      | bad => simp only [R.bind_ok, q2] at p; exact p.elim
      | exc x' st2 => simp only [R.bind_ok, q2] at p; exact fun μ' H' C od x2 h2 r2 => p μ' H' C od ((x0.trans x1).trans x2) h2 r2
      | ok d st2 =>
        simp only [R.bind_ok, q2] at p
        intro μ2 H2 v x2 hs2 r2
        have x02 := x1.trans x2
        have hp2 : H2 q = some (.dK []) := by
          obtain ⟨ν, _, _, c⟩ := x02
          exact c q _ (upd_same) (.inl hn)
        have hn2 : q ∉ μ2 := by
          obtain ⟨ν, rfl, f, c⟩ := x02
          intro hm
          rcases List.mem_append.mp hm with h | h
          · exact hn h
          · have := (f q h).1
            rw [upd_same] at this; cases this
        have rk := RelD.ext hs1 x2 _ _ r1
        unfold dct1D at p
        cases ek : keyS x with
        | none => rw [ek] at p; exact p.elim
        | some kk =>
          rw [ek] at p
          have ekv := keyS_ok rk ek
          have xA : Ext μ H (μ2 ++ [q]) H2 := (x0.trans x02).adopt hq hn2
          have hsA : HS (gx X) (μ2 ++ [q]) H2 (st2 ++ [.dct []]) := hs2.adopt hp2 hn2 ⟨[], rfl, rfl⟩
          have rdA : RelD (gx X) (μ2 ++ [q]) H2 d v := RelD.pre _ _ r2
          have e1 : (μ2 ++ [q])[st2.length]? = some q := by rw [← hs2.len, List.getElem?_append_right (Nat.le_refl _)]; simp
          have hsB := hsA.put (ao := .dct [(x, d)]) (o' := .dK [(kk, v)]) e1 ⟨_, rfl, _, _, _, rfl, ek, rdA, rfl⟩
          have xB : Ext (μ2 ++ [q]) H2 (μ2 ++ [q]) (upd H2 q (.dK [(kk, v)])) := .put e1 hp2
          refine ⟨hp2, [(kk, v)], ?_, by simp, ?_⟩
          · rw [ekv]; rfl
          · have est : (st2 ++ [AO.dct []]).set st2.length (.dct [(x, d)]) = st2 ++ [.dct [(x, d)]] := by simp
            rw [est] at hsB
            have em : mergeK [] [(kk, v)] = [(kk, v)] := rfl
            rw [em]
            exact p (μ2 ++ [q]) _ _ (xA.trans xB) hsB ⟨q, e1, rfl⟩
end
@[simp] theorem eDct1_ap (fk fe : EF) (env : AEnv) (st : Store) : eDct1 fk fe env st = ((fk env st).bind fun x st1 => (fe env st1).bind fun d st2 => dct1D x d st2) := (Eq.refl _).trans rfl
@[simp] theorem dct1D_str (x : Str) (d : D) (st : Store) : dct1D (.str x) d st = .ok (.ref st.length) (st ++ [.dct [(.str x, d)]]) := rfl
@[simp] theorem dct1D_int (x : Int) (d : D) (st : Store) : dct1D (.int x) d st = .ok (.ref st.length) (st ++ [.dct [(.int x, d)]]) := rfl
end TK

set_option Elab.async false
set_option linter.all false
set_option maxRecDepth 100000
set_option maxHeartbeats 4000000
namespace TK
open PySem PySem.Spec
open PyProof.Rows hiding St
open L2
/-! # try: .. except X as e: the suite looks at e's class and gives a name a word -/
/-! ## xs.count(True) of flags -/
theorem bools_of_vals : ∀ {bs : List Bool} {us : List Value}, Vals (bs.map V.bl) us → us = bs.map Value.bool
  | [], us, r => by
    rw [List.map_nil] at r
    cases r
    rfl
  | b :: bs, us, r => by
    rw [List.map_cons] at r
    cases r with
    | cons r1 r2 =>
      have e : _ = Value.bool b := r1
      rw [e, bools_of_vals r2]
      rfl
theorem countP_bools (k : Bool) : ∀ bs : List Bool, (bs.map Value.bool).countP (isBoolOf k) = bs.count k
  | [] => rfl
  | b :: bs => by
    have ih := countP_bools k bs
    rw [List.map_cons, List.countP_cons, List.count_cons, ih]
    rfl
def rCntB (K : PySem.W.Frag) : V → List V → Hp → VK → Prop := fun x xs H Q => ∃ (p : Addr) (bs : List Bool) (k : Bool), x = .ref p ∧ xs = [.bl k] ∧ SqL K H p (bs.map V.bl) ∧ Q (.int (bs.count k : Nat)) H
theorem mt_bcount {X : Cx} : MtR X "list.count" (rCntB X.K) := by
  intro pins s σ H x xs v us Q I rx rxs h
  obtain ⟨p, bs, k, rfl, rfl, hs, q⟩ := h
  cases rx
  obtain ⟨u, rfl, ru⟩ := rxs.one
  have eu : u = Value.bool k := ru
  subst eu
  obtain ⟨its, rv, ⟨⟨cls, dd, data, sl⟩, n, ho, hc, hdn, hd⟩, hlen⟩ := I.list hs
  simp only at hc hd
  subst hc hd
  have hi := bools_of_vals rv
  subst hi
  refine call_meets PySem.F.slot_list_count ⟨_, ho, rfl⟩ PySem.F.entry_list_count (PySem.F.args_list_count_2 _ _)
    (SeqAt.list_countAt p (bs.map Value.bool).toArray n dd sl (.bool k) (isBoolOf k)) ⟨ho, fun y hy => ?_, ?_⟩
  · have hy : y ∈ bs.map Value.bool := by simpa using hy
    obtain ⟨b, _, rfl⟩ := List.mem_map.mp hy
    exact SeqAt.EqAt.bool_bool b k
  · have ec : (bs.map Value.bool).toArray.toList.countP (isBoolOf k) = bs.count k := by
      show (bs.map Value.bool).countP (isBoolOf k) = bs.count k
      exact countP_bools k bs
    refine ⟨.int (bs.count k : Nat), H, I.tok _, ⟨s.toks, ?_⟩, q⟩
    show Value.int (((bs.map Value.bool).toArray.toList.countP (isBoolOf k) : Nat) : Int) s.toks = Value.int ((bs.count k : Nat) : Int) s.toks
    rw [ec]
/-! ## the suite's parts -/
section
variable {X Y : Cx} {W : WX} {e : Expr} {es : List Expr} {pos p1 p2 p3 p4 p5 : Pos} {i kf kt : Nat} {a : Addr} {b : Bool} {bs : List Bool} {ws : List Str} {w w0 : Str} {n fn wn : Str}
/-- a flag told of the exception -/
def PIs (Y : Cx) (e : Expr) (i : Nat) (a : Addr) (b : Bool) : Prop := PE Y e (fun σ H Q => σ[i]? = some (some (.ref a)) ∧ Q (.bl b) H)
def PB (Y : Cx) (es : List Expr) (i : Nat) (a : Addr) (bs : List Bool) : Prop := PA Y es (fun σ H Q => σ[i]? = some (some (.ref a)) ∧ Q (bs.map V.bl) H)
def PWs (Y : Cx) (es : List Expr) (ws : List Str) : Prop := PA Y es (fun σ H Q => Q (ws.map V.str) H)
theorem pb_cons (h : PIs Y e i a b) (t : PB Y es i a bs) (hs : starEach (e :: es) Y.env = (false, eval e Y.env) :: starEach es Y.env := by rfl) : PB Y (e :: es) i a (b :: bs) :=
  (pa_cons h t hs).weak fun σ H Q ⟨h1, h2⟩ => ⟨h1, h1, h2⟩
theorem pb_one (h : PIs Y e i a b) (hs : starEach [e] Y.env = (false, eval e Y.env) :: starEach [] Y.env := by rfl) : PB Y [e] i a [b] :=
  (pa_cons h pa_nil hs).weak fun σ H Q ⟨h1, h2⟩ => ⟨h1, h2⟩
theorem pws_nil : PWs Y [] [] := pa_nil.weak fun σ H Q h => h
theorem pws_cons {j} (t : PWs Y es ws) (hs : starEach (.Constant (.str w) j pos :: es) Y.env = (false, eval (.Constant (.str w) j pos) Y.env) :: starEach es Y.env := by rfl) : PWs Y (.Constant (.str w) j pos :: es) (w :: ws) :=
  (pa_cons pe_str t hs).weak fun σ H Q h => h
/-- what an own class says of another one -/
structure ExF (G : GX) (y c : Str) (b : Bool) : Prop where
  ex : ∀ D, G.mg y = some (.ref D) → ExcC G.K D ∧ ∃ A, G.mg c = some (.ref A) ∧ PySem.W.kitOne G.K (.ref D) (.ref A) = some b
structure ExV (G : GX) (y : Str) : Prop where
  ex : ∀ D, G.mg y = some (.ref D) → ExcC G.K D ∧ PySem.W.kitOne G.K (.ref D) (.type "ValueError") = some true
theorem is_own {y c : Str} {D : Addr} {oe : Obj} {pn : List (Addr × Obj)} (J : ExF (gx X) y c b) (hD : X.mg y = some (.ref D)) (hz : Zc (.ref D) none oe) (hf : ∃ vs, oe.data = .fields vs) (hm : X.mg "isinstance" = none)
    (hi : X.N[i]? = some n := by rfl) (hv : Vis X.env.scope n := by first | exact Or.inl rfl | exact Or.inr (Or.inl rfl) | exact Or.inr (Or.inr rfl)) (hd1 : (n == ("__debug__" : Str)) = false := by decide) (hcd : (n == ("__classdict__" : Str)) = false := by decide)
    (hg : Gl X "isinstance" := by rfl) (hgc : Gl X c := by rfl) (hdc : (c == ("__debug__" : Str)) = false := by decide)
    (he : starEach [.Name n p2, .Name c p3] X.env = (false, eval (.Name n p2) X.env) :: starEach [.Name c p3] X.env := by rfl) (he2 : starEach [.Name c p3] X.env = (false, eval (.Name c p3) X.env) :: starEach [] X.env := by rfl) (hpl : (backTo pos (starEach [.Name c p3] X.env)).any (·.1) = false := by rfl) :
    PIs (X.suite a ((a, oe) :: pn)) (.Call (.Name "isinstance" p1) [.Name n p2, .Name c p3] [] pos) i a b := by
  obtain ⟨C, A, hA, hk⟩ := J.ex D hD
  exact (pe_callB (X := X.suite a ((a, oe) :: pn)) (call_isE C hz hf) hg hm (by decide +kernel) (pa_cons (pe_var (X := X.suite a ((a, oe) :: pn)) hi hv hd1 hcd) (pa_cons (pe_glob (X := X.suite a ((a, oe) :: pn)) (v := .ref A) hgc hA (by rfl) hdc) pa_nil he2) he) (he := he) (hpl := hpl)).weak fun σ H Q ⟨h1, h2⟩ =>
    ⟨_, h1, .ref A, .ref A, b, rfl, fun u hu => hu, hk, h2⟩
theorem is_val {y : Str} {D : Addr} {oe : Obj} {pn : List (Addr × Obj)} (J : ExV (gx X) y) (hD : X.mg y = some (.ref D)) (hz : Zc (.ref D) none oe) (hf : ∃ vs, oe.data = .fields vs) (hm : X.mg "isinstance" = none) (hmv : X.mg "ValueError" = none)
    (hi : X.N[i]? = some n := by rfl) (hv : Vis X.env.scope n := by first | exact Or.inl rfl | exact Or.inr (Or.inl rfl) | exact Or.inr (Or.inr rfl)) (hd1 : (n == ("__debug__" : Str)) = false := by decide) (hcd : (n == ("__classdict__" : Str)) = false := by decide)
    (hg : Gl X "isinstance" := by rfl) (hgc : Gl X "ValueError" := by rfl)
    (he : starEach [.Name n p2, .Name "ValueError" p3] X.env = (false, eval (.Name n p2) X.env) :: starEach [.Name "ValueError" p3] X.env := by rfl) (he2 : starEach [.Name "ValueError" p3] X.env = (false, eval (.Name "ValueError" p3) X.env) :: starEach [] X.env := by rfl) (hpl : (backTo pos (starEach [.Name "ValueError" p3] X.env)).any (·.1) = false := by rfl) :
    PIs (X.suite a ((a, oe) :: pn)) (.Call (.Name "isinstance" p1) [.Name n p2, .Name "ValueError" p3] [] pos) i a true := by
  obtain ⟨C, hk⟩ := J.ex D hD
  exact (pe_callB (X := X.suite a ((a, oe) :: pn)) (call_isE C hz hf) hg hm (by decide +kernel) (pa_cons (pe_var (X := X.suite a ((a, oe) :: pn)) hi hv hd1 hcd) (pa_cons (pe_bltn (X := X.suite a ((a, oe) :: pn)) (v := .ty "ValueError") (u := .type "ValueError") hgc hmv (by decide +kernel) (by rfl) (by decide) (by decide)) pa_nil he2) he) (he := he) (hpl := hpl)).weak fun σ H Q ⟨h1, h2⟩ =>
    ⟨_, h1, .ty "ValueError", .type "ValueError", true, rfl, fun u hu => hu, hk, h2⟩
/-! ## the suite -/
/-- the slot kt holds the word w behind it, kf something, e's own slot is i -/
def tSuW (i kf kt : Nat) (a : Addr) (w : Str) : TS := fun D σ H => σ[i]? = some (some (.ref a)) ∧ (kf < σ.length ∧ kt < σ.length) ∧ ∀ v H', (∀ b o, H b = some o → H' b = some o) → D.nx ((σ.set kf (some v)).set kt (some (.str w))) H'
theorem su_flags {j : Nat} {x : Str} (hN : Y.N.Nodup) (h : PB Y es i a bs) (hz : bs.length ≤ 1000) (hi : Y.N[j]? = some x := by rfl) (hx : Loc Y.env.scope x := by first | exact Or.inl rfl | exact Or.inr rfl)
    (hs : swapsWith (.List es p2) (some (.Name x p1)) pos.line Y.env = pure false := by rfl) (hf : Y.fn x = true ∨ Y.env.scope.names.lookup x = some .local := by first | exact .inl rfl | exact .inr rfl) :
    PS Y (.Assign [.Name x p1] (.List es p2) pos) (fun D σ H => σ[i]? = some (some (.ref a)) ∧ ∀ q, H q = none → D.nx (σ.set j (some (.ref q))) (upd H q (.lst (bs.map V.bl)))) :=
  (ps_set hN hi hx (pe_lst h) hs hf).weak fun D σ H ⟨h1, h2⟩ => ⟨h1, by rw [List.length_map]; exact Nat.le_trans hz (by decide), fun q hq => h2 q hq⟩
theorem su_word {j : Nat} {x : Str} {m} (hN : Y.N.Nodup) (hi : Y.N[j]? = some x := by rfl) (hx : Loc Y.env.scope x := by first | exact Or.inl rfl | exact Or.inr rfl)
    (hs : swapsWith (.Constant (.str w) m p2) (some (.Name x p1)) pos.line Y.env = pure false := by rfl) (hf : Y.fn x = true ∨ Y.env.scope.names.lookup x = some .local := by first | exact .inl rfl | exact .inr rfl) :
    PS Y (.Assign [.Name x p1] (.Constant (.str w) m p2) pos) (fun D σ H => D.nx (σ.set j (some (.str w))) H) :=
  (ps_set hN hi hx pe_str hs hf).weak fun D σ H h => h
/-- flags.count(True) == 1 -/
theorem pt_count {x : Str} {m m2} {apos cpos : Pos} (hi : Y.N[kf]? = some x := by rfl) (hv : Vis Y.env.scope x := by first | exact Or.inl rfl | exact Or.inr (Or.inl rfl) | exact Or.inr (Or.inr rfl)) (hd1 : (x == ("__debug__" : Str)) = false := by decide) (hcd : (x == ("__classdict__" : Str)) = false := by decide)
    (hbase : attributeBase (.Name x p1) "count" Y.env (eval (.Name x p1) Y.env) = eval (.Name x p1) Y.env := by rfl)
    (hfew : ((backTo cpos (starEach [.Constant (.bool true) m p2] Y.env)).all (fun x => !x.1) && (backToKw cpos (keywordEach [] Y.env)).all (fun x => x.1.isSome)
      && decide (([.Constant (.bool true) m p2] : List Expr).length + ([] : List Keyword).length + (if ([] : List Keyword).isEmpty then 0 else 1) < 30)) = true := by rfl)
    (hline : (apos.endLine == cpos.line) = true := by rfl) (hs : starEach [.Constant (.bool true) m p2] Y.env = (false, eval (.Constant (.bool true) m p2) Y.env) :: starEach [] Y.env := by rfl) (hplain : (backTo cpos (starEach [] Y.env)).any (·.1) = false := by rfl) :
    PT Y (.Compare (.Call (.Attribute (.Name x p1) "count" apos) [.Constant (.bool true) m p2] [] cpos) [.Eq] [.Constant (.int 1) m2 p3] pos)
      (fun σ H Q => ∃ (q : Addr) (bs : List Bool), σ[kf]? = some (some (.ref q)) ∧ H q = some (.lst (bs.map V.bl)) ∧ Q (decide (bs.count true = 1)) H) :=
  (pt_cmpR op_eq (pe_bm PySem.F.plainAttrs_list PySem.F.slot_list_count PySem.F.type_list_count mt_bcount (pe_var hi hv hd1 hcd) (pa_cons pe_bl pa_nil hs) hbase hfew hline hs hplain) pe_int (nomark _)).weak fun σ H Q ⟨q, bs, h1, h2, h3⟩ =>
    ⟨_, h1, .inl ⟨rfl, _, .of h2⟩, q, bs, true, rfl, rfl, .of h2, rfl, _, rfl, by
      have e : decide (V.int ((bs.count true : Nat) : Int) = V.int 1) = decide (bs.count true = 1) := by
        rw [Bool.eq_iff_iff, decide_eq_true_iff, decide_eq_true_iff]
        constructor
        · intro h; have := V.int.inj h; omega
        · intro h; rw [h]; rfl
      rw [e]; exact h3⟩
/-- flags.count(True) == 1 and isinstance(e, ValueError) -/
theorem pt_andE {x : Expr} {e : Expr} {t : TT} (h1 : PT Y x t) (h2 : PIs Y e i a true) (hmo : ∀ σ H Q Q', (∀ c H', Q c H' → Q' c H') → t σ H Q → t σ H Q') (he : ∀ whole, isTrue e Y.env whole = (do let v ← whole; standAt e.pos; holding [v] (truthy v)) := by intro _; rfl) : PT Y (.BoolOp .And [x, e] pos) (fun σ H Q => σ[i]? = some (some (.ref a)) ∧ t σ H Q) :=
  (pw_and h1 (pw_and1 (pt_val h2 he))).pt.weak fun σ H Q ⟨hc, h⟩ => hmo _ _ _ _ (fun c H' q => by
    cases c with
    | true => exact ⟨hc, true, rfl, q⟩
    | false => exact q) h
/-- [..][flags.index(True)] -/
theorem su_pick {x y : Str} {m} {apos cpos : Pos} {j : Nat} (hN : Y.N.Nodup) (hw : PWs Y es ws) (hws : ws.length ≤ 1000) (hj : ws[j]? = some w)
    (hi : Y.N[kf]? = some x := by rfl) (hv : Vis Y.env.scope x := by first | exact Or.inl rfl | exact Or.inr (Or.inl rfl) | exact Or.inr (Or.inr rfl)) (hd1 : (x == ("__debug__" : Str)) = false := by decide) (hcd : (x == ("__classdict__" : Str)) = false := by decide)
    (hi2 : Y.N[kt]? = some y := by rfl) (hx2 : Loc Y.env.scope y := by first | exact Or.inl rfl | exact Or.inr rfl)
    (hbase : attributeBase (.Name x p1) "index" Y.env (eval (.Name x p1) Y.env) = eval (.Name x p1) Y.env := by rfl)
    (hfew : ((backTo cpos (starEach [.Constant (.bool true) m p2] Y.env)).all (fun x => !x.1) && (backToKw cpos (keywordEach [] Y.env)).all (fun x => x.1.isSome)
      && decide (([.Constant (.bool true) m p2] : List Expr).length + ([] : List Keyword).length + (if ([] : List Keyword).isEmpty then 0 else 1) < 30)) = true := by rfl)
    (hline : (apos.endLine == cpos.line) = true := by rfl) (hs : starEach [.Constant (.bool true) m p2] Y.env = (false, eval (.Constant (.bool true) m p2) Y.env) :: starEach [] Y.env := by rfl) (hplain : (backTo cpos (starEach [] Y.env)).any (·.1) = false := by rfl)
    (hp : PlainIx (.Call (.Attribute (.Name x p1) "index" apos) [.Constant (.bool true) m p2] [] cpos) := by exact fun _ _ => rfl)
    (hsw : swapsWith (.Subscript (.List es p4) (.Call (.Attribute (.Name x p1) "index" apos) [.Constant (.bool true) m p2] [] cpos) p5) (some (.Name y p3)) pos.line Y.env = pure false := by rfl) (hf : Y.fn y = true ∨ Y.env.scope.names.lookup y = some .local := by first | exact .inl rfl | exact .inr rfl) :
    PS Y (.Assign [.Name y p3] (.Subscript (.List es p4) (.Call (.Attribute (.Name x p1) "index" apos) [.Constant (.bool true) m p2] [] cpos) p5) pos)
      (fun D σ H => ∃ (q : Addr) (bs : List Bool), σ[kf]? = some (some (.ref q)) ∧ H q = some (.lst (bs.map V.bl)) ∧ bs[j]? = some true ∧ (∀ m, m < j → bs[m]? = some false) ∧ ∀ H', (∀ b o, H b = some o → H' b = some o) → D.nx (σ.set kt (some (.str w))) H') :=
  (ps_set hN hi2 hx2 (pe_ix ix_seq (pe_lst hw) (pe_bm PySem.F.plainAttrs_list PySem.F.slot_list_index PySem.F.type_list_index mt_index (pe_var hi hv hd1 hcd) (pa_cons pe_bl pa_nil hs) hbase hfew hline hs hplain) hp) hsw hf).weak fun D σ H ⟨q, bs, h1, h2, h3, h4, h5⟩ => by
    refine ⟨by rw [List.length_map]; exact Nat.le_trans hws (by decide), fun r hr => ?_⟩
    have ne : q ≠ r := fun e => by rw [e, hr] at h2; cases h2
    have h2' : upd H r (.lst (ws.map V.str)) q = some (.lst (bs.map V.bl)) := by rw [upd_ne ne]; exact h2
    refine ⟨_, h1, .inl ⟨rfl, _, .of h2'⟩, q, bs.map V.bl, .bl true, j, .bl true, rfl, rfl, .of h2', rfl, ?_, ?_, rfl, fun m z' hm hz' => ?_, ?_⟩
    · rw [List.all_map]; exact List.all_eq_true.mpr fun b _ => rfl
    · rw [List.getElem?_map, h3]; rfl
    · rw [List.getElem?_map, h4 m hm] at hz'
      cases hz'
      rfl
    · refine .inl ⟨r, ws.map V.str, j, .str w, rfl, rfl, .of upd_same, ?_, h5 _ fun b o hb => ?_⟩
      · have : (ws.map V.str)[j]? = some (.str w) := by rw [List.getElem?_map, hj]; rfl
        have hjl : j < ws.length := (List.getElem?_eq_some_iff.mp hj).1
        have ix : ixN (ws.map V.str).length (j : Int) = some j := by
          rw [List.length_map]
          unfold ixN
          rw [if_pos (by omega), if_pos (by omega)]
          simp
        unfold atI
        rw [ix]
        exact this
      · rw [upd_ne fun e => by rw [e, hr] at hb; cases hb]; exact hb
/-- flags = [..]; word = w0; if flags.count(True) == 1 (and more): word = [..][flags.index(True)] -/
theorem su_B {S1 S2 S3b : Stmt} {c : Expr} {j : Nat} (hik : i ≠ kf) (hit : i ≠ kt) (hkt : kf ≠ kt)
    (h1 : PS Y S1 (fun D σ H => σ[i]? = some (some (.ref a)) ∧ ∀ q, H q = none → D.nx (σ.set kf (some (.ref q))) (upd H q (.lst (bs.map V.bl)))))
    (h2 : PS Y S2 (fun D σ H => D.nx (σ.set kt (some (.str w0))) H))
    (h3 : PT Y c (fun σ H Q => σ[i]? = some (some (.ref a)) ∧ ∃ (q : Addr) (bs : List Bool), σ[kf]? = some (some (.ref q)) ∧ H q = some (.lst (bs.map V.bl)) ∧ Q (decide (bs.count true = 1)) H))
    (h4 : PS Y S3b (fun D σ H => ∃ (q : Addr) (bs : List Bool), σ[kf]? = some (some (.ref q)) ∧ H q = some (.lst (bs.map V.bl)) ∧ bs[j]? = some true ∧ (∀ m, m < j → bs[m]? = some false) ∧ ∀ H', (∀ b o, H b = some o → H' b = some o) → D.nx (σ.set kt (some (.str w))) H'))
    (hb : (bs.count true = 1 ∧ bs[j]? = some true ∧ ∀ m, m < j → bs[m]? = some false) ∨ (bs.count true ≠ 1 ∧ w = w0)) :
    PSs Y [S1, S2, .If c [S3b] [] pos] (tSuW i kf kt a w) :=
  (pss_cons h1 (pss_cons h2 (pss_one (ps_if h3 (pss_one h4) pss_nil)))).weak fun D σ H ⟨hc, ⟨hl1, hl2⟩, h⟩ => by
    refine ⟨hc, fun q hq => ?_⟩
    have up : ∀ b o, H b = some o → upd H q (.lst (bs.map V.bl)) b = some o := fun b o hb => by rw [upd_ne fun e => by rw [e, hq] at hb; cases hb]; exact hb
    have e1 : ((σ.set kf (some (.ref q))).set kt (some (.str w0)))[i]? = some (some (.ref a)) := by rw [List.getElem?_set_ne (Ne.symm hit), List.getElem?_set_ne (Ne.symm hik)]; exact hc
    have e2 : ((σ.set kf (some (.ref q))).set kt (some (.str w0)))[kf]? = some (some (.ref q)) := by rw [List.getElem?_set_ne (Ne.symm hkt), List.getElem?_set_self hl1]
    refine ⟨e1, q, bs, e2, upd_same, ?_⟩
    rcases hb with ⟨k1, k2, k3⟩ | ⟨k1, rfl⟩
    · rw [decide_eq_true k1, if_pos rfl]
      refine ⟨q, bs, e2, upd_same, k2, k3, fun H' hH' => ?_⟩
      have := h (.ref q) H' fun b o hb => hH' b o (up b o hb)
      show D.nx _ H'
      rw [List.set_set]
      exact this
    · rw [decide_eq_false k1]
      exact h (.ref q) _ up
theorem pt_countE {c : Expr} (h : PT Y c (fun σ H Q => ∃ (q : Addr) (bs : List Bool), σ[kf]? = some (some (.ref q)) ∧ H q = some (.lst (bs.map V.bl)) ∧ Q (decide (bs.count true = 1)) H)) :
    PT Y c (fun σ H Q => σ[i]? = some (some (.ref a)) ∧ ∃ (q : Addr) (bs : List Bool), σ[kf]? = some (some (.ref q)) ∧ H q = some (.lst (bs.map V.bl)) ∧ Q (decide (bs.count true = 1)) H) := h.weak fun σ H Q h => h.2
theorem cnt_mono (σ : St) (H : Hp) (Q Q' : Bool → Hp → Prop) (hm : ∀ c H', Q c H' → Q' c H') : (∃ (q : Addr) (bs : List Bool), σ[kf]? = some (some (.ref q)) ∧ H q = some (.lst (bs.map V.bl)) ∧ Q (decide (bs.count true = 1)) H) → (∃ (q : Addr) (bs : List Bool), σ[kf]? = some (some (.ref q)) ∧ H q = some (.lst (bs.map V.bl)) ∧ Q' (decide (bs.count true = 1)) H) :=
  fun ⟨q, bs, h1, h2, h3⟩ => ⟨q, bs, h1, h2, hm _ _ h3⟩
/-! ## the try -/
/-- the words of the classes caught; none: not caught -/
def sTryW (i kf kt : Nat) (cat : List (Str × Option Str)) (fb : SF) : SF := fun env st => match fb env st with
  | .exc env' x st' => (match cat.lookup x.cls with
    | some (some w) => if x.fs = [] ∧ i ≠ kt ∧ kf ≠ kt ∧ kf < env'.length ∧ kt < env'.length ∧ i < env'.length then .next (((env'.set i none).set kf none).set kt (some (.str w))) st' else .bad
    | some none => .exc env' x st'
    | none => .bad)
  | r => r
/-- what the clause of x says of the classes asked -/
def TryWF (G : GX) (x : Str) (cat : List (Str × Option Str)) : Prop := ∃ c, G.mg x = some c ∧ ∀ (y : Str) (o : Option Str), cat.lookup y = some o → ∀ C, G.mg y = some C → PySem.W.exmOne G.K C c = some o.isSome
/-- the suite gives each class caught its word -/
def SuOk (X : Cx) (i kf kt : Nat) (body : List Stmt) (cat : List (Str × Option Str)) : Prop := ∀ (y w : Str), cat.lookup y = some (some w) → ∀ D, X.mg y = some (.ref D) → ∀ (a : Addr) (oe : Obj) (pn : List (Addr × Obj)), Zc (.ref D) none oe → (∃ vs, oe.data = .fields vs) → PSs (X.suite a ((a, oe) :: pn)) body (tSuW i kf kt a w)
theorem suOk_nil {body : List Stmt} : SuOk X i kf kt body [] := fun y w h => by cases h
theorem suOk_skip {body : List Stmt} {y : Str} {cat : List (Str × Option Str)} (t : SuOk X i kf kt body cat) : SuOk X i kf kt body ((y, none) :: cat) := fun z w h => by
  rw [List.lookup_cons] at h
  split at h
  · cases h
  · exact t z w h
theorem suOk_cons {body : List Stmt} {y : Str} {cat : List (Str × Option Str)} (hh : ∀ D, X.mg y = some (.ref D) → ∀ (a : Addr) (oe : Obj) (pn : List (Addr × Obj)), Zc (.ref D) none oe → (∃ vs, oe.data = .fields vs) → PSs (X.suite a ((a, oe) :: pn)) body (tSuW i kf kt a w)) (t : SuOk X i kf kt body cat) : SuOk X i kf kt body ((y, some w) :: cat) := fun z w' h => by
  rw [List.lookup_cons] at h
  split at h
  · rename_i hz
    have hz : z = y := by simpa using hz
    cases h
    subst hz
    exact hh
  · exact t z w' h
theorem as_tryW {W : WX} {lv : Nat} {np pos' : Pos} {body suite : List Stmt} {b₀ : Stmt} {fb : SF} {x : Str} {cat : List (Str × Option Str)} (cx : Ctx X W lv) (h : TryWF (gx X) x cat)
    (hb : ∀ (W' : WX) (pn : List (Addr × Obj)) (xe : Value → Shared → Prop), Ctx (X.tr pn xe) W' lv → ASs (X.tr pn xe) W' body fb)
    (hsu : SuOk X i kf kt (b₀ :: suite) cat) (hi : X.N[i]? = some n := by rfl) (hln : X.env.kindOf n = some .local := by rfl)
    (hs : X.stack = X.env :: X.outer := by rfl) (hf : X.env.frame = some X.env.locals := by rfl) (hg : Gl X x := by rfl) (hd : (x == ("__debug__" : Str)) = false := by decide) :
    AS X W (.Try body [.ExceptHandler (some (.Name x np)) (some n) (b₀ :: suite) pos'] [] [] pos) (sTryW i kf kt cat fb) := by
  obtain ⟨c, hc, hm⟩ := h
  exact (ps_try_as (tb := fun W' D σ H => ∃ μ env st, HS (gx X) μ H st ∧ EnvR (gx X) μ H env σ ∧ PostS (gx X) W' μ H (fb env st) D)
    (ts := fun a cls d D σ H => ∃ (y w : Str) (Dd : Addr), cat.lookup y = some (some w) ∧ X.mg y = some (.ref Dd) ∧ cls = .ref Dd ∧ d = none ∧ tSuW i kf kt a w D σ H)
    hs hf cx.nd hi hln ⟨hg, hd, .inl hc⟩ cx.tk (fun W' pn xe tk own => hb W' pn xe ⟨cx.nd, cx.calm, cx.room, own, tk⟩) (fun a oe cls d pn hz hfl => ⟨fun pins s σ H D I ⟨y, w, Dd, h1, h2, h3, h4, h5⟩ => by
      subst h3 h4
      exact (hsu y w h1 Dd h2 a oe pn hz hfl).run pins s σ H D I h5⟩)).weak fun Dn σ H ⟨μ, env, st, hs, er, p⟩ => by
    refine ⟨μ, env, st, hs, er, ?_⟩
    unfold sTryW at p
    cases q : fb env st with
    | next env1 st1 => rw [q] at p; exact p
    | ret d st1 => rw [q] at p; exact p
    | brk env1 st1 => rw [q] at p; exact p
    | cont env1 st1 => rw [q] at p; exact p
    | bad => rw [q] at p; exact p
    | exc env1 x1 st1 =>
      rw [q] at p
      intro μ' H' σ' C od e2 hs2 er2 rx
      obtain ⟨C', hC1, hC2, hC3⟩ := id rx
      simp only at p
      split at p
      · rename_i w hl
        split at p
        · rename_i hk
          obtain ⟨k0, k1, k2, k3, k4, k5⟩ := hk
          have hod : od = none := by
            cases od with
            | none => rfl
            | some dx => exact absurd k0 hC3.1
          refine ⟨true, hm _ _ hl _ (by rw [hC2]; exact hC1), fun _ a na => ?_, fun z => nomatch z⟩
          refine ⟨_, w, C', hl, hC1, hC2, hod, ?_, ⟨?_, ?_⟩, fun v H2 hH2 => ?_⟩
          · rw [List.getElem?_set_self (by rw [← er2.1]; exact k5)]
          · rw [List.length_set, ← er2.1]; exact k3
          · rw [List.length_set, ← er2.1]; exact k4
          · have p2 := PostS.later p e2
            have x2 : Ext μ' H' μ' H2 := ⟨[], by simp, by simp, fun b o e _ => hH2 b o e⟩
            have hs3 : HS (gx X) μ' H2 st1 := hs2.keep x2 fun b hb => by
              obtain ⟨j, hj, e⟩ := List.getElem_of_mem hb
              obtain ⟨o, ho, _, e1, _⟩ := hs2.at (i := j) (a := b) (by rw [List.getElem?_eq_getElem hj, e])
              rw [e1]; exact hH2 b ho e1
            refine p2 μ' H2 _ x2 hs3 ⟨by simp [er2.1], fun j d hj => ?_⟩
            by_cases ej : j = kt
            · subst ej
              rw [List.getElem?_set_self (by simpa using k4)] at hj
              cases hj
              refine ⟨.str w, ?_, rfl⟩
              rw [List.getElem?_set_ne k1, List.getElem?_set_self (by simp; rw [← er2.1]; exact k4)]
            · rw [List.getElem?_set_ne (Ne.symm ej)] at hj
              by_cases ef : j = kf
              · subst ef
                rw [List.getElem?_set_self (by simpa using k3)] at hj
                cases hj
              · rw [List.getElem?_set_ne (Ne.symm ef)] at hj
                by_cases ei : j = i
                · subst ei
                  rw [List.getElem?_set_self k5] at hj
                  cases hj
                · rw [List.getElem?_set_ne (Ne.symm ei)] at hj
                  obtain ⟨v2, e1, rd⟩ := er2.2 j d hj
                  exact ⟨v2, by rw [List.getElem?_set_ne (Ne.symm ei), List.getElem?_set_ne (Ne.symm ej), List.getElem?_set_ne (Ne.symm ef), List.getElem?_set_ne (Ne.symm ei)]; exact e1, RelD.ext hs2 x2 d v2 rd⟩
        · exact p.elim
      · rename_i hl
        exact ⟨false, hm _ _ hl _ (by rw [hC2]; exact hC1), (fun z => nomatch z), fun _ => p μ' H' σ' C od e2 hs2 er2 rx⟩
      · exact p.elim
end
end TK

set_option Elab.async false
set_option linter.all false
set_option maxRecDepth 100000
set_option maxHeartbeats 4000000
namespace TK
open PySem PySem.Spec
open PyProof.Rows hiding St
open L2
/-! # list(a dict whose keys are tuples) -/
section
variable {G : GX} {μ : List Addr} {H : Hp}
theorem keySs_rel : ∀ {ds : List D} {c : List Key}, keySs ds = some c → RelDs G μ H ds (c.map kV)
  | [], c, e => by simp [keySs] at e; subst e; rfl
  | d :: ds, c, e => by
    simp only [keySs] at e
    split at e
    · rename_i k ks e1 e2
      cases e
      refine ⟨kV k, ks.map kV, rfl, ?_, keySs_rel e2⟩
      cases d <;> simp [keyS] at e1
      · subst e1; rfl
      · subst e1; rfl
    · cases e
theorem keysT_rel : ∀ {kvs : List (D × D)} {ks : List (List Key × V)} {bs : List Addr}, RelK G μ H keyT kvs ks → IsKeys H ks bs → RelDs G μ H (kvs.map (·.1)) (bs.map V.ref)
  | [], ks, bs, r, h => by
    cases r
    cases h
    rfl
  | (k, d) :: kvs, ks, bs, r, h => by
    obtain ⟨c, v, rest, rfl, ec, _, rs⟩ := r
    cases h with
    | cons hb ht =>
      rename_i b bs'
      refine ⟨.ref b, bs'.map V.ref, rfl, ?_, keysT_rel rs ht⟩
      cases k with
      | tup ds => exact ⟨b, c.map kV, rfl, hb, keySs_rel ec⟩
      | _ => simp [keyT] at ec
def lKeysT (fe : EF) : LF := fun env st => (fe env st).bind fun d st1 => match d with
  | .ref n => (match st1[n]? with
    | some (.dcT kvs) => .ok (kvs.map (·.1)) st1
    | _ => .bad)
  | _ => .bad
@[simp] theorem lKeysT_ap (fe : EF) (env : AEnv) (st : Store) : lKeysT fe env st = ((fe env st).bind fun d st1 => match d with
  | .ref n => (match st1[n]? with
    | some (.dcT kvs) => .ok (kvs.map (·.1)) st1
    | _ => .bad)
  | _ => .bad) := (Eq.refl _).trans rfl
theorem al_keysT {X : Cx} {W : WX} {e : Expr} {fe : EF} {lv : Nat} {p pos : Pos} (cx : Ctx X W lv) (hm : X.mg "list" = none) (ha : AE X W e fe) (hg : Gl X "list" := by rfl) (he : starEach [e] X.env = (false, eval e X.env) :: starEach [] X.env := by rfl) :
    AL X W (.Call (.Name "list" p) [e] [] pos) (lKeysT fe) := (pe_callTy (call_list_dT cx.calm) hg hm (by decide +kernel) (pa_cons ha pa_nil he) (by decide) (by decide) he rfl).weak fun σ H Q ⟨μ, env, st, hs, er, q⟩ =>
  ⟨μ, env, st, hs, er, Post.bind0 q fun d st1 μ1 H1 v _ x1 hs1 r1 p1 => by
    cases d with
    | ref n =>
      obtain ⟨a, e1, rfl⟩ := r1
      obtain ⟨ob, ho, e2, e3, ro⟩ := hs1.at e1
      simp only [e2] at p1
      cases ob with
      | dcT kvs =>
        obtain ⟨ks, rfl, rk⟩ := ro
        refine ⟨a, ks, rfl, .inl e3, fun l bs hl hk => p1 μ1 _ _ (x1.trans (.new hl)) (hs1.new hl) ⟨l, _, rfl, Ext.back x1 .refl (hs1.fresh hl) hl, hs1.fresh hl, upd_same, ?_⟩⟩
        exact RelDs.ext hs1 (.new hl) _ _ (keysT_rel rk hk)
      | _ => exact p1.elim
    | _ => exact p1.elim⟩
end
end TK

set_option Elab.async false
set_option linter.all false
set_option maxRecDepth 100000
set_option maxHeartbeats 4000000
namespace TK
open PySem PySem.Spec
open PyProof.Rows hiding St
open L2
/-! # x in d, for a dict whose keys are tuples -/
def rInDT : R2 := fun x y H Q => ∃ a o, y = .ref a ∧ DGet H a x o ∧ Q (.bl o.isSome) H
theorem op_inDT {X : Cx} (hu : X.A.units + 1 < cLine) : OpR X (compareOp .In) rInDT := by
  intro pins s σ H x y v u Q I rx ry h
  obtain ⟨a, o, rfl, g, q⟩ := h
  cases ry
  exact d_in hu I g rx fun s3 I3 => ⟨.bl o.isSome, H, I3, rfl, q⟩
def inDct (x y : D) (st : Store) : R D := match y with
  | .ref n => (match st[n]? with
    | some (.dcT kvs) => (match keyT x with
      | some k => .ok (.bl (getKs keyT k kvs).isSome) st
      | none => .bad)
    | _ => .bad)
  | _ => .bad
theorem inDctA {G : GX} : OpA G inDct rInDT := by
  intro W σ μ H st x y v u Q hs rx ry p
  cases y with
  | ref n =>
    obtain ⟨a, e1, rfl⟩ := ry
    obtain ⟨ob, ho, e2, e3, ro⟩ := hs.at e1
    simp only [inDct, e2] at p
    cases ob with
    | dcT kvs =>
      obtain ⟨ks, rfl, rk⟩ := ro
      simp only at p
      split at p
      · rename_i k ek
        obtain ⟨b, rfl, hb⟩ := keyT_ok rx ek
        refine ⟨a, valV ks k, rfl, .inr ⟨ks, k, b, .inl e3, rfl, hb, rfl⟩, ?_⟩
        have e : (valV ks k).isSome = (getKs keyT k kvs).isSome := by
          rcases relK_get (k := k) rk with ⟨h1, h2⟩ | ⟨d, w, h1, h2, _⟩
          · rw [h1, h2]; rfl
          · rw [h1, h2]; rfl
        rw [e]
        exact p μ H _ .refl hs rfl
      · exact p.elim
    | _ => exact p.elim
  | _ => exact p.elim
section
variable {X : Cx} {W : WX} {a b : Expr} {fa fb : EF} {pos : Pos} {lv : Nat}
theorem ae_inDct (cx : Ctx X W lv) (ha : AE X W a fa) (hb : AE X W b fb) (hm : behindInMarks .In b = false := by with_unfolding_all rfl) : AE X W (.Compare a [.In] [b] pos) (e2 inDct fa fb) := ae_cmp (op_inDT (by have := Room.units65 cx.room; omega)) inDctA ha hb hm
theorem at_inDct (cx : Ctx X W lv) (ha : AE X W a fa) (hb : AE X W b fb) (hm : behindInMarks .In b = false := by with_unfolding_all rfl) : AT X W (.Compare a [.In] [b] pos) (bB (e2 inDct fa fb)) := at_cmp (op_inDT (by have := Room.units65 cx.room; omega)) inDctA ha hb hm
end
end TK

set_option Elab.async false
set_option linter.all false
set_option maxRecDepth 100000
set_option maxHeartbeats 4000000
namespace TK
open PySem PySem.Spec
open PyProof.Rows hiding St
open L2
/-! # t < u for tuples of numbers -/
def ltT (x y : D) (st : Store) : R D := match x, y with
  | .tup ds, .tup es => (match intsOf ds, intsOf es with
    | some ns, some ms => .ok (.bl (HT.lexLt ns ms)) st
    | _, _ => .bad)
  | _, _ => .bad
theorem ltTA {G : GX} : OpA G ltT (rLtT G.K) := by
  intro W σ μ H st x y v u Q hs rx ry p
  cases x with
  | tup ds =>
    cases y with
    | tup es =>
      obtain ⟨a, vs, rfl, qa, ra⟩ := rx
      obtain ⟨b, ws, rfl, qb, rb⟩ := ry
      simp only [ltT] at p
      split at p
      · rename_i ns ms h1 h2
        exact ⟨a, b, ns, ms, rfl, rfl, .of (by rw [qa, intsOf_ok ra h1]), .of (by rw [qb, intsOf_ok rb h2]), p μ H _ .refl hs rfl⟩
      · exact p.elim
    | _ => exact p.elim
  | _ => exact p.elim
section
variable {X : Cx} {W : WX} {a b : Expr} {fa fb : EF} {pos : Pos} {lv : Nat}
theorem ae_ltT (cx : Ctx X W lv) (ha : AE X W a fa) (hb : AE X W b fb) : AE X W (.Compare a [.Lt] [b] pos) (e2 ltT fa fb) := ae_cmp (op_ltT (by have := Room.units65 cx.room; omega)) ltTA ha hb (nomark _)
theorem at_ltT (cx : Ctx X W lv) (ha : AE X W a fa) (hb : AE X W b fb) : AT X W (.Compare a [.Lt] [b] pos) (bB (e2 ltT fa fb)) := at_cmp (op_ltT (by have := Room.units65 cx.room; omega)) ltTA ha hb (nomark _)
end
end TK

set_option Elab.async false
set_option linter.all false
set_option maxRecDepth 100000
set_option maxHeartbeats 4000000
namespace TK
open PySem PySem.Spec
open PyProof.Rows hiding St
open L2
/-! # sorted of a list of tuples of ints, any number of them -/
section
variable {prog : Program} {w : World} {A : Around} {E : Value → Shared → Prop} {s : Shared}
/-- the places, one by one -/
theorem lex_ints {fin : Bool} {Q : Bool → Shared → Prop} : ∀ {xs : List Value} {ns : List Int} (hx : IntsAre xs ns) {ys : List Value} {ms : List Int} (hy : IntsAre ys ms) (i : Nat), fin = decide (xs.length < ys.length) → Q (HT.lexLt ns ms) s → PySem.W.KatLex prog w A true fin Q (xs.zip ys) i s
  | _, _, .nil, _, _, .nil, i, hf, h => by
    refine PySem.W.kat_nil ?_
    rw [hf]
    exact h
  | _, _, .nil, _, _, .cons m u r2, i, hf, h => by
    refine PySem.W.kat_nil ?_
    rw [hf, decide_eq_true (by simp)]
    exact h
  | _, _, .cons n t r1, _, _, .nil, i, hf, h => by
    refine PySem.W.kat_nil ?_
    rw [hf, decide_eq_false (by simp)]
    exact h
  | _, _, .cons n t r1, _, _, .cons m u r2, i, hf, h => by
    refine PySem.W.kat_cons (SeqAt.EqAt.int_int n t m u prog w _ _ ?_)
    refine PySem.W.kat_go (fun e1 => ?_) (fun e1 => ?_)
    · have ex : n = m := by simpa using e1
      rw [HT.lexLt_cons, if_pos ex] at h
      exact PySem.W.kat_yes (lex_ints r1 r2 (i + 1) (by rw [hf]; simp) h)
    · have ex : ¬ n = m := by simpa using e1
      rw [HT.lexLt_cons, if_neg ex] at h
      refine PySem.W.kat_no ?_
      cases i with
      | zero => exact oneLt_int h
      | succ i =>
        show wpAny _ _ (oneLt' (true && (i + 1 == 0)) _ _) _ _ _
        have e0 : (true && (i + 1 == 0)) = false := by simp
        rw [e0]
        exact PySem.W.kat_one _ _ (PyProof.Rows.lt_int h)
theorem tups_cmp {vs : List Value} {k : Value → List Int} (hv : ∀ v ∈ vs, TS.TupInts s.heap v (k v)) : SrtO.Cmp prog w A s (tuples' true) (fun p => p.1 ∈ vs) (SrtO.lt2 fun v u => HT.lexLt (k v) (k u)) := by
  intro p q hm hm'
  have h1 := hv _ hm
  have h2 := hv _ hm'
  show wpAny (model prog w) A (keyLt' (tuples' true) p.1 q.1) (fun r s' => s' = s ∧ r = HT.lexLt (k p.1) (k q.1)) (fun _ _ => False) s
  generalize k p.1 = ns at h1 ⊢
  generalize k q.1 = ms at h2 ⊢
  obtain ⟨a, xs, e1, ⟨o, ho, hc, n, hd⟩, i1⟩ := h1
  obtain ⟨b, ys, e2, ⟨o2, ho2, hc2, n2, hd2⟩, i2⟩ := h2
  rw [e1, e2]
  refine PySem.W.kat_lt ho hd ho2 hd2 ?_
  exact lex_ints i1 i2 0 (by simp) ⟨rfl, rfl⟩
/-- the first places -/
theorem tups_firsts {h : Heap} {k : Value → List Int} : ∀ {vs : List Value}, (∀ v ∈ vs, TS.TupInts h v (k v) ∧ k v ≠ []) → ∃ fs, PySem.W.KatTups h vs fs ∧ fs.length = vs.length ∧ ∀ f ∈ fs, ∃ i t, f = Value.int i t
  | [], _ => ⟨[], .nil, rfl, fun f hf => absurd hf (by simp)⟩
  | v :: vs, hv => by
    obtain ⟨fs, h1, h2, h3⟩ := tups_firsts fun u hu => hv u (List.mem_cons_of_mem _ hu)
    obtain ⟨⟨a, xs, e, ⟨o, ho, hc, n, hd⟩, i1⟩, ne⟩ := hv v List.mem_cons_self
    subst e
    generalize k (Value.ref a) = ns at i1 ne
    cases hxs : xs.toList with
    | nil => rw [hxs] at i1; cases i1; exact absurd rfl ne
    | cons x l =>
      rw [hxs] at i1
      cases i1 with
      | cons m t r =>
        have hf : xs[0]? = some (Value.int m t) := by
          rw [← Array.getElem?_toList, hxs]
          rfl
        exact ⟨.int m t :: fs, .cons ho hc hd hf h1, by simp [h2], fun f hf' => by
          rcases List.mem_cons.mp hf' with rfl | hf'
          · exact ⟨m, t, rfl⟩
          · exact h3 f hf'⟩
theorem tups_sortable {a : Addr} {vs : List Value} {k : Value → List Int} (h2 : 2 ≤ vs.length) (hv : ∀ v ∈ vs, TS.TupInts s.heap v (k v) ∧ k v ≠ []) (ha : ∀ o, s.heap.get? a = some o → o.cls ≠ .type "tuple") :
    SrtO.SortableO prog w A s a vs fun v u => HT.lexLt (k v) (k u) := by
  intro h' keep
  have hv' : ∀ v ∈ vs, TS.TupInts h' v (k v) ∧ k v ≠ [] := fun v hm => ⟨(hv v hm).1.keeps fun b o e c => keep b o (fun z => by subst z; exact ha o e c) e, (hv v hm).2⟩
  obtain ⟨fs, f1, f2, f3⟩ := tups_firsts hv'
  refine ⟨tuples' true, fun Q E hq => ?_, tups_cmp (s := { s with heap := h' }) fun v hm => (hv' v hm).1⟩
  refine PySem.W.kat_kind (s := { s with heap := h' }) (T := .type "int") f1 (by omega) (fun f hm => ?_) (by rfl) ?_
  · obtain ⟨x, t, rfl⟩ := f3 f hm
    exact PySem.W.Looks.now
  · have e : (Value.type "int" != Value.type "tuple") = true := by first | decide +kernel | rfl | decide
    rw [e]
    exact hq
theorem tups_one {v u : Value} {ns ms : List Int} {Q : Bool → Shared → Prop} (hu : A.units < cLine) (h1 : TS.TupInts s.heap v ns) (h2 : TS.TupInts s.heap u ms) (h : Q (HT.lexLt ns ms) s) : wpAny (model prog w) A (keyLt' oneType' v u) Q E s := by
  obtain ⟨l, xs, e1, hl, i1⟩ := h1
  obtain ⟨b, ys, e2, hb, i2⟩ := h2
  obtain ⟨⟨cls, dd, data, sl⟩, ho, hc, n, hd⟩ := id hl
  obtain ⟨⟨cls2, dd2, data2, sl2⟩, ho2, hc2, n2, hd2⟩ := id hb
  simp only at hc hd hc2 hd2
  subst hc hd hc2 hd2
  rw [e1, e2, keyLt'_oneType, oneLt'_eq]
  simp only [if_true]
  refine wpAny_bind (wpAny_cRoomFor hu ?_)
  refine wpAny_bind (wpAny_callSpecialIfBound?_slot (T := "tuple") ⟨_, ho, rfl⟩ PySem.F.slot_tuple_lt (call_meets PySem.F.slot_tuple_lt ⟨_, ho, rfl⟩ PySem.F.entry_tuple_lt (PySem.F.args_tuple_lt_2 _ _) (HT.tuple_lt_ints l b xs ys n n2 dd dd2 sl sl2 ns ms i1 i2) ⟨ho, ho2, ?_⟩))
  exact wpAny_truthy_bool h
theorem firsts_opt {k : Value → List Int} {M : Model} : ∀ {vs : List Value}, (∀ v ∈ vs, TS.TupInts s.heap v (k v)) → ∃ os : List (Option Value), (∀ {Q : List (Option Value) → Shared → Prop}, Q os s → wpAny M A (vs.mapM firstOfTuple') Q E s) ∧ (∀ v r, vs = v :: r → k v = [] → ∃ os', os = none :: os')
  | [], _ => ⟨[], fun h => by rw [List.mapM_nil]; exact wpAny_pure h, fun v r e => by cases e⟩
  | v :: vs, hv => by
    obtain ⟨os, h1, _⟩ := firsts_opt fun u hu => hv u (List.mem_cons_of_mem _ hu)
    obtain ⟨a, xs, e, ⟨o, ho, hc, n, hd⟩, i1⟩ := hv v List.mem_cons_self
    refine ⟨xs[0]? :: os, fun {Q} h => ?_, fun v' r e' hk => ?_⟩
    · subst e
      rw [List.mapM_cons]
      refine wpAny_bind ?_
      rw [PySem.W.kas_first_eq]
      refine wpAny_bind (PySem.W.Looks.here (show PySem.W.Looks M s.heap (typeOf (.ref a)) o.cls from (PySem.W.Looks.ld ho).andThen .now) ?_)
      rw [hc, if_neg (by first | decide | simp)]
      refine wpAny_bind (listItems_at ho hd (wpAny_pure ?_))
      exact wpAny_bind (h1 (Q := fun bs s' => wpAny M A (pure (xs[0]? :: bs)) Q E s') (wpAny_pure h))
    · cases e'
      rw [hk] at i1
      have : xs.toList = [] := by
        cases hxs : xs.toList with
        | nil => rfl
        | cons x l => rw [hxs] at i1; cases i1
      have e0 : xs[0]? = none := by rw [← Array.getElem?_toList, this]; rfl
      exact ⟨os, by rw [e0]⟩
theorem tups_kind0 {k : Value → List Int} {M : Model} {v : Value} {r : List Value} {Q : SortKind → Shared → Prop} (hv : ∀ u ∈ v :: r, TS.TupInts s.heap u (k u)) (h0 : k v = []) (h : Q oneType' s) : wpAny M A (keyKind' (v :: r).toArray) Q E s := by
  obtain ⟨os, h1, h2⟩ := firsts_opt (A := A) (E := E) (M := M) hv
  obtain ⟨os', rfl⟩ := h2 v r rfl h0
  have hT : ∀ u ∈ v :: r, PySem.W.Looks M s.heap (typeOf u) (Value.type "tuple") := fun u hu => by
    obtain ⟨a, xs, rfl, ⟨o, ho, hc, _⟩, _⟩ := hv u hu
    rw [← hc]
    exact (PySem.W.Looks.ld ho).andThen .now
  rw [keyKind'_eq, List.mapM_toArray, map_eq_pure_bind]
  refine wpAny_bind (wpAny_bind (h1 (wpAny_pure ?_)))
  rw [if_neg (by simp), if_neg (by simp)]
  rw [oneTypeOnly'_eq, List.mapM_toArray, map_eq_pure_bind]
  refine wpAny_bind (wpAny_bind (wpAny_bind (PySem.W.kas_mapM (r := Value.type "tuple") _ (fun u hu Q' hq => (hT u hu).here hq) (wpAny_pure ?_))))
  have hall : ((List.map (fun _ => Value.type "tuple") (v :: r)).toArray.all fun x => x == Value.type "tuple") = true := by
    simp only [List.all_toArray, List.all_map, List.all_eq_true]
    intro _ _
    rfl
  have h0' : (List.map (fun _ => Value.type "tuple") (v :: r)).toArray[0]? = some (Value.type "tuple") := by simp
  rw [h0']
  simp only [hall, if_true]
  exact wpAny_pure (wpAny_pure h)
theorem tups_sortable0 {a : Addr} {vs : List Value} {k : Value → List Int} {v : Value} {r : List Value} (e0 : vs = v :: r) (h0 : k v = []) (hu : A.units < cLine) (hv : ∀ v ∈ vs, TS.TupInts s.heap v (k v)) (ha : ∀ o, s.heap.get? a = some o → o.cls ≠ .type "tuple") :
    SrtO.SortableO prog w A s a vs fun v u => HT.lexLt (k v) (k u) := by
  intro h' keep
  have hv' : ∀ v ∈ vs, TS.TupInts h' v (k v) := fun v hm => (hv v hm).keeps fun b o e c => keep b o (fun z => by subst z; exact ha o e c) e
  subst e0
  refine ⟨oneType', fun Q E hq => tups_kind0 (s := { s with heap := h' }) hv' h0 hq, fun p q hm hm' => ?_⟩
  exact tups_one (s := { s with heap := h' }) (Q := fun r s' => s' = { s with heap := h' } ∧ r = HT.lexLt (k p.1) (k q.1)) (E := fun _ _ => False) hu (hv' _ hm) (hv' _ hm') ⟨rfl, rfl⟩
end
section
variable {X : Cx}
/-- sorted(xs), xs tuples of ints: none empty, or the first one -/
def rSortTI (K : PySem.W.Frag) : List V → Hp → VK → Prop := fun vs H Q => ∃ (a : Addr) (xs : List V) (k : V → List Int), vs = [V.ref a] ∧ SqL K H a xs ∧ (∀ x ∈ xs, TupI K H x (k x)) ∧ ((∀ x ∈ xs, k x ≠ []) ∨ ∃ x r, xs = x :: r ∧ k x = []) ∧
  ∀ (ys : List V) (p : Addr), ys.Perm xs → ys.Pairwise (fun x y => HT.lexLt (k y) (k x) = false) → H p = none → Q (.ref p) (upd H p (.lst ys))
theorem cr_sortTI (hu : X.A.units + 2 < cLine) : CallR X (.builtin "sorted") (rSortTI X.K) := by
  intro pins s σ H vs us Q I r h
  obtain ⟨a, xs, k, rfl, hs, hx, hc, q⟩ := h
  obtain ⟨its, rv, hl, hz⟩ := I.list hs
  rw [Vals.ref1 r]
  obtain ⟨b1, b2⟩ := bkV_refs rv fun x m => by
    obtain ⟨t, e, _⟩ := hx x m
    exact ⟨t, e⟩
  have hm : ∀ u ∈ its, bkV u ∈ xs := fun u hu => by rw [b1]; exact List.mem_map.mpr ⟨u, hu, rfl⟩
  have hT : ∀ v ∈ its, TS.TupInts s.heap v (k (bkV v)) := fun v hv => by
    obtain ⟨t, et, ht⟩ := hx _ (hm v hv)
    have ev := bkV_ref et
    have := tupI_raw I ht
    rw [← ev] at this
    exact this
  refine SrtO.sorted_ord (NtL.swo_lexL fun u => k (bkV u)) hl.isList (by rw [← rv.length]; exact hz) (fun h2 h₁ a' hat hk => ?_) fun out h1 h2 => ?_
  · have hT1 : ∀ v ∈ its, TS.TupInts h₁ v (k (bkV v)) := fun v hv => (hT v hv).keeps fun b o e _ => (hk b o e).2
    have ha : ∀ o, h₁.get? a' = some o → o.cls ≠ .type "tuple" := fun o e => by
      rw [hat] at e
      cases e
      intro z
      have z' : Value.type "list" = Value.type "tuple" := z
      injection z' with z''
      exact absurd z'' (by decide)
    rcases hc with hc | ⟨x, r', e', h0⟩
    · exact tups_sortable (s := { s with heap := h₁ }) (k := fun u => k (bkV u)) h2 (fun v hv => ⟨hT1 v hv, hc _ (hm v hv)⟩) ha
    · cases hi : its with
      | nil => rw [hi] at b1; rw [e'] at b1; cases b1
      | cons v r2 =>
        rw [hi] at b1 hT1
        rw [e'] at b1
        rw [List.map_cons] at b1
        injection b1 with c1 c2
        exact tups_sortable0 (s := { s with heap := h₁ }) (k := fun u => k (bkV u)) rfl (by show k (bkV v) = []; rw [← c1]; exact h0) (by show X.A.units + 1 + 1 < cLine; omega) hT1 ha
  · obtain ⟨ep, he'⟩ := PyProof.Rows.sortedAll_at s.heap its out.toArray
    have hp : out.Perm its := h2.perm
    have h3 : ∀ u ∈ out, ∃ a, u = Value.ref a := fun u hu => b2 u (hp.mem_iff.mp hu)
    have hp' : (out.map bkV).Perm xs := by
      rw [b1]
      exact hp.map bkV
    have hlen : (out.map bkV).length ≤ sizeLine := by
      rw [hp'.length_eq]
      exact hz
    refine ⟨.ref _, upd H (s.heap.objs.size + 1) (.lst (out.map bkV)), I.laid (t' := s.toks) (fun _ _ => PyProof.Rows.sortedAll_old) (Nat.le_succ _) ⟨hlen, out, ep, bkV_vals h3, he'⟩, rfl, q _ _ hp' ?_ (I.hok.fresh (Nat.le_succ _))⟩
    exact List.pairwise_map.mpr (h1.imp fun {x y} z => z)
end
/-! ## the same, of plain data -/
def tiD (x : List Int) : D := .tup (x.map D.int)
def tupsOf : List D → Option (List (List Int))
  | [] => some []
  | .tup ds :: r => (match intsOf ds, tupsOf r with
    | some ns, some L => some (ns :: L)
    | _, _ => none)
  | _ => none
def insL (x : List Int) : List (List Int) → List (List Int)
  | [] => [x]
  | y :: l => if HT.lexLt y x then y :: insL x l else x :: y :: l
def sortL : List (List Int) → List (List Int)
  | [] => []
  | x :: l => insL x (sortL l)
theorem insL_perm (x : List Int) : ∀ l : List (List Int), (insL x l).Perm (x :: l)
  | [] => .refl _
  | y :: l => by
    unfold insL
    split
    · exact ((insL_perm x l).cons y).trans (.swap x y l)
    · exact .refl _
theorem sortL_perm : ∀ l : List (List Int), (sortL l).Perm l
  | [] => .refl _
  | x :: l => (insL_perm x _).trans ((sortL_perm l).cons x)
abbrev LeL (x y : List Int) : Prop := HT.lexLt y x = false
theorem lexLt_total : ∀ {x y : List Int}, LeL x y → LeL y x → x = y
  | [], [], _, _ => rfl
  | [], y :: ys, _, h => by simp [LeL, HT.lexLt_nil_cons] at h
  | x :: xs, [], h, _ => by simp [LeL, HT.lexLt_nil_cons] at h
  | x :: xs, y :: ys, h1, h2 => by
    unfold LeL at h1 h2
    rw [HT.lexLt_cons] at h1 h2
    by_cases e : x = y
    · subst e
      rw [if_pos rfl] at h1 h2
      rw [lexLt_total h1 h2]
    · rw [if_neg (fun z => e z.symm)] at h1
      rw [if_neg e] at h2
      have a := of_decide_eq_false h1
      have b := of_decide_eq_false h2
      omega
theorem LeL.trans {x y z : List Int} (h1 : LeL x y) (h2 : LeL y z) : LeL x z := (NtL.swo_lexL (fun u : List Int => u)).2 x y z h1 h2
theorem insL_sorted (x : List Int) : ∀ {l : List (List Int)}, l.Pairwise LeL → (insL x l).Pairwise LeL
  | [], _ => List.pairwise_singleton _ _
  | y :: l, h => by
    obtain ⟨h1, h2⟩ := List.pairwise_cons.mp h
    unfold insL
    split
    · rename_i c
      refine List.pairwise_cons.mpr ⟨fun z hz => ?_, insL_sorted x h2⟩
      rcases List.mem_cons.mp ((insL_perm x l).mem_iff.mp hz) with rfl | hz
      · exact (NtL.swo_lexL (fun u : List Int => u)).1 y z c
      · exact h1 z hz
    · rename_i c
      have c' : LeL x y := by
        unfold LeL
        cases hh : HT.lexLt y x with
        | false => rfl
        | true => exact absurd hh c
      exact List.pairwise_cons.mpr ⟨fun z hz => by
        rcases List.mem_cons.mp hz with rfl | hz
        · exact c'
        · exact c'.trans (h1 z hz), h⟩
theorem sortL_sorted : ∀ l : List (List Int), (sortL l).Pairwise LeL
  | [] => .nil
  | x :: l => insL_sorted x (sortL_sorted l)
theorem sortL_eq {xs ys : List (List Int)} (p : xs.Perm ys) (h1 : xs.Pairwise LeL) (h2 : ys.Pairwise LeL) : xs = ys := p.eq_of_pairwise (fun a b _ _ h h' => lexLt_total h h') h1 h2
def sortTG (ds : List D) (st : Store) : R (List D) := match tupsOf ds with
  | some L => if (∀ x ∈ L, x ≠ []) ∨ L.head? = some [] then .ok ((sortL L).map tiD) st else .bad
  | none => .bad
/-- the numbers of a tuple -/
def vI : V → Int
  | .int i => i
  | _ => 0
def kT (H : Hp) : V → List Int
  | .ref t => (match H t with
    | some (.tup us) => us.map vI
    | _ => [])
  | _ => []
theorem tupsOf_rel {G : GX} {μ : List Addr} {H : Hp} : ∀ {ds : List D} {vs : List V} {L : List (List Int)}, RelDs G μ H ds vs → tupsOf ds = some L → vs.map (kT H) = L ∧ ∀ v ∈ vs, TupI G.K H v (kT H v) ∧ RelD G μ H (tiD (kT H v)) v
  | [], _, L, r, e => by cases r; cases e; exact ⟨rfl, fun v hv => absurd hv (by simp)⟩
  | d :: ds, vs, L, r, e => by
    obtain ⟨v, rest, rfl, rd, rs⟩ := r
    cases d with
    | tup es =>
      simp only [tupsOf] at e
      split at e
      · rename_i ns L' h1 h2
        cases e
        obtain ⟨a, ws, rfl, q, ra⟩ := rd
        obtain ⟨i1, i2⟩ := tupsOf_rel rs h2
        have hw := intsOf_ok ra h1
        have hk : kT H (.ref a) = ns := by
          show (match H a with
            | some (.tup us) => us.map vI
            | _ => []) = ns
          rw [q, hw]
          show (ns.map V.int).map vI = ns
          rw [List.map_map]
          exact List.map_id ns
        refine ⟨by rw [List.map_cons, hk, i1], fun u hu => ?_⟩
        rcases List.mem_cons.mp hu with rfl | hu
        · rw [hk]
          exact ⟨⟨a, rfl, .of (by rw [q, hw])⟩, a, ws, rfl, q, by rw [hw]; exact intsRel ns⟩
        · exact i2 u hu
      · cases e
    | _ => simp [tupsOf] at e
theorem sortTQ {G : GX} : CalQ G (relM G) (relL G) sortTG (rSortTI G.K) := by
  intro W σ μ0 H0 μ H st ds v Q x hs r p
  obtain ⟨a, vs, rfl, q, rs⟩ := r
  unfold sortTG at p
  split at p
  · rename_i L e
    obtain ⟨i1, i2⟩ := tupsOf_rel rs e
    split at p
    · rename_i hc
      refine ⟨a, vs, kT H, rfl, .of q, fun u hu => (i2 u hu).1, ?_, fun ys l pm so hl => ?_⟩
      · rcases hc with hc | hc
        · exact .inl fun u hu => hc _ (by rw [← i1]; exact List.mem_map.mpr ⟨u, hu, rfl⟩)
        · refine .inr ?_
          cases vs with
          | nil => rw [← i1] at hc; cases hc
          | cons u r' =>
            rw [← i1] at hc
            exact ⟨u, r', rfl, by simpa using hc⟩
      · have es : sortL L = ys.map (kT H) := sortL_eq ((sortL_perm L).trans (by rw [← i1]; exact (pm.map _).symm)) (sortL_sorted L) (List.pairwise_map.mpr (so.imp fun {x y} z => z))
        have rl : RelDs G μ H ((sortL L).map tiD) ys := by
          rw [es]
          have hy : ∀ y ∈ ys, RelD G μ H (tiD (kT H y)) y := fun y hy => (i2 y (pm.mem_iff.mp hy)).2
          clear es pm so p
          induction ys with
          | nil => rfl
          | cons y ys ih => exact .cons (hy y (by simp)) (ih fun z hz => hy z (List.mem_cons_of_mem _ hz))
        exact p μ _ _ (x.trans (.new hl)) (hs.new hl) ⟨l, _, rfl, Ext.back x .refl (hs.fresh hl) hl, hs.fresh hl, upd_same, RelDs.ext hs (.new hl) _ _ rl⟩
    · exact p.elim
  · exact p.elim
section
variable {X : Cx} {W : WX} {e : Expr} {fl : LF} {pos : Pos} {lv : Nat}
theorem al_sortedTI {p : Pos} (cx : Ctx X W lv) (hm : X.mg "sorted" = none) (ha : AM X W e fl) (hg : Gl X "sorted" := by rfl) (he : starEach [e] X.env = (false, eval e X.env) :: starEach [] X.env := by rfl) : AL X W (.Call (.Name "sorted" p) [e] [] pos) (lQ sortTG fl) :=
  p_callB (cr_sortTI (by have := Room.units65 cx.room; omega)) sortTQ hm (by decide +kernel) ha hg (he := he)
end
end TK

set_option Elab.async false
set_option linter.all false
set_option maxRecDepth 100000
set_option maxHeartbeats 4000000
namespace TK
open PySem PySem.Spec
open PyProof.Rows hiding St
open L2
/-! # zip of a list and a tuple: two feeds, whatever they read from -/
section
variable {prog : Program} {w : World}
/-- what an iterator at it over l gives: items one after another, then its end -/
structure Feed (prog : Program) (w : World) (it l : Addr) (items : Array Value) (T : Nat → Heap → Prop) : Prop where
  item : ∀ {A : Around} {E : Value → Shared → Prop} {s : Shared} {k : Nat} {x : Value} {Q : Value → Shared → Prop}, T k s.heap → items[k]? = some x → (∀ h', T (k + 1) h' → Heap.SameBut it s.heap h' → Q x { s with heap := h' }) → wpAny (model prog w) A (Builtin.SmallTypes.nextOf (.ref it)) Q E s
  stop : ∀ {A : Around} {E : Value → Shared → Prop} {s : Shared} {k : Nat} {Q : Value → Shared → Prop}, A.handled = none → T k s.heap → items[k]? = none → (∀ h' e, Heap.ExtBut it s.heap h' → (∃ o, h'.get? e = some o ∧ o.cls = .type "StopIteration") → E (.ref e) { s with heap := h' }) → wpAny (model prog w) A (Builtin.SmallTypes.nextOf (.ref it)) Q E s
  keep : ∀ {k : Nat} {h h' : Heap} {c : Addr}, T k h → Heap.ExtBut c h h' → it ≠ c → l ≠ c → T k h'
theorem feedL {it l : Addr} {items : Array Value} (hn : l ≠ it) : Feed prog w it l items (fun k h => h.IsListIter it l k ∧ h.IsList l items) where
  item := fun h hx hQ => wpAny_nextOf_list_item h.1 h.2 hx fun h' a b => hQ h' ⟨a, h.2.extBut b.extBut hn⟩ b
  stop := fun hh h hx hE => wpAny_nextOf_list_end hh h.1 h.2 hx hE
  keep := fun h e a b => ⟨h.1.extBut e a, h.2.extBut e b⟩
theorem feedT {it l : Addr} {items : Array Value} (hn : l ≠ it) : Feed prog w it l items (fun k h => h.IsTupleIter it l k ∧ h.IsTuple l items) where
  item := fun h hx hQ => RZ.nextOf_tuple_item h.1 h.2 hx fun h' a b => hQ h' ⟨a, h.2.extBut b.extBut hn⟩ b
  stop := fun hh h hx hE => RZ.nextOf_tuple_end hh h.1 h.2 hx hE
  keep := fun h e a b => ⟨h.1.extBut e a, h.2.extBut e b⟩
section
variable {A : Around} {E : Value → Shared → Prop} {s : Shared} {z TI TO i1 i2 l1 l2 : Addr} {k1 k2 : Nat} {xs ys : Array Value} {x y a b : Value} {T1 T2 : Nat → Heap → Prop}
theorem zip_feed_item {Q : Value → Shared → Prop} (f1 : Feed prog w i1 l1 xs T1) (f2 : Feed prog w i2 l2 ys T2) (D : ZipApart z TI TO i1 i2 l1 l2)
    (hz : IsZip s.heap z TI TO .none) (hTI : IsPair s.heap TI (.ref i1) (.ref i2)) (hTO : IsPair s.heap TO a b) (h1 : T1 k1 s.heap) (h2 : T2 k2 s.heap) (hx : xs[k1]? = some x) (hy : ys[k2]? = some y)
    (hQ : ∀ h', IsZip h' z TI TO (rawInt s.heap.objs.size) → IsPair h' TO x y → T1 (k1 + 1) h' → T2 (k2 + 1) h' → IsPair h' s.heap.objs.size x y → h'.objs.size = s.heap.objs.size + 1 →
      (∀ c o, c ≠ z → c ≠ TO → c ≠ i1 → c ≠ i2 → s.heap.get? c = some o → h'.get? c = some o) → Q (.ref s.heap.objs.size) { s with heap := h' }) :
    wpAny (model prog w) A (Builtin.«zip.__next__» ⟨[.ref z], []⟩) (fun fin s' => ∃ v, fin = .done (.ret v) ∧ Q v s') E s := by
  show wpAny _ _ (field (.ref z) 2 >>= _) _ _ _
  refine wpAny_bind (wpAny_field hz rfl (x := .bool false) rfl ?_)
  show wpAny _ _ (field (.ref z) 3 >>= _) _ _ _
  refine wpAny_bind (wpAny_field hz rfl (x := .ref TI) rfl (wpAny_bind (wpAny_seqItems hTI rfl ?_)))
  show wpAny _ _ (Builtin.SmallTypes.ownedTupleIsFree (.ref z) >>= _) _ _ _
  unfold Builtin.SmallTypes.ownedTupleIsFree
  refine wpAny_bind (wpAny_bind (wpAny_field hz rfl (x := .none) rfl (wpAny_pure ?_)))
  simp only [if_true]
  refine wpAny_bind (wpAny_rule (wpAny_bind (wpAny_field hz rfl (x := .ref TO) rfl (wpAny_bind (wpAny_setField_rec hz (by simp) fun g1 z1 e1 => wpAny_bind ?_)))))
  replace z1 : IsZip g1 z TI TO .ellipsis := z1
  simp only [List.zipIdx_cons, List.zipIdx_nil, List.forIn_cons, List.forIn_nil]
  have t1 : T1 k1 g1 := f1.keep h1 e1.extBut D.i1z D.l1z
  have t2 : T2 k2 g1 := f2.keep h2 e1.extBut D.i2z D.l2z
  refine wpAny_bind (wpAny_bind (wpAny_onRaise ?_))
  show wpAny _ _ (Builtin.SmallTypes.nextOf (.ref i1) >>= _) _ _ _
  refine wpAny_bind (f1.item t1 hx fun g2 u1 e2 => wpAny_pure ?_)
  have p2 : IsPair g2 TO a b := e2.extBut _ _ D.TOi1 (e1.extBut _ _ D.TOz hTO)
  refine wpAny_bind (wpAny_seqItems p2 rfl (wpAny_bind (wpAny_updateSeq_pair p2 fun g3 p3 e3 => wpAny_bind (wpAny_letGo (wpAny_pure ?_)))))
  replace p3 : IsPair g3 TO x b := p3
  have t3 : T2 k2 g3 := f2.keep (f2.keep t2 e2.extBut D.i12.symm D.l2i1) e3.extBut D.TOi2.symm D.l2TO
  refine wpAny_bind (wpAny_bind (wpAny_onRaise ?_))
  show wpAny _ _ (Builtin.SmallTypes.nextOf (.ref i2) >>= _) _ _ _
  refine wpAny_bind (f2.item t3 hy fun g4 u2 e4 => wpAny_pure ?_)
  have p4 : IsPair g4 TO x b := e4.extBut _ _ D.TOi2 p3
  refine wpAny_bind (wpAny_seqItems p4 rfl (wpAny_bind (wpAny_updateSeq_pair p4 fun g5 p5 e5 => wpAny_bind (wpAny_letGo (wpAny_pure (wpAny_pure ?_))))))
  replace p5 : IsPair g5 TO x y := p5
  refine wpAny_bind (wpAny_seqItems p5 rfl (wpAny_bind (wpAny_newTuple ?_)))
  have sz : g5.objs.size = s.heap.objs.size := by rw [e5.1, e4.1, e3.1, e2.1, e1.1]
  have z5 : IsZip g5 z TI TO .ellipsis := e5.extBut _ _ D.TOz.symm (e4.extBut _ _ D.i2z.symm (e3.extBut _ _ D.TOz.symm (e2.extBut _ _ D.i1z.symm z1)))
  have k5 : ∀ c o, c ≠ z → c ≠ TO → c ≠ i1 → c ≠ i2 → s.heap.get? c = some o → g5.get? c = some o := fun c o n1 n2 n3 n4 q =>
    e5.extBut _ _ n2 (e4.extBut _ _ n4 (e3.extBut _ _ n2 (e2.extBut _ _ n3 (e1.extBut _ _ n1 q))))
  have v1 : T1 (k1 + 1) g5 := f1.keep (f1.keep (f1.keep u1 e3.extBut D.TOi1.symm D.l1TO) e4.extBut D.i12 D.l1i2) e5.extBut D.TOi1.symm D.l1TO
  have v2 : T2 (k2 + 1) g5 := f2.keep u2 e5.extBut D.TOi2.symm D.l2TO
  have zl : z < g5.objs.size := Heap.lt_size z5
  show wpAny _ _ (Builtin.SmallTypes.ownedTupleHandOut (.ref z) (.ref g5.objs.size) >>= _) _ _ _
  unfold Builtin.SmallTypes.ownedTupleHandOut
  have z6 : IsZip (g5.push { cls := .type "tuple", data := .seq #[x, y] }) z TI TO .ellipsis := Heap.get?_push_of_some _ z5
  refine wpAny_bind (wpAny_bind (wpAny_setField_rec z6 (by simp) fun g7 z7 e7 => wpAny_setField_rec (show IsZip g7 z TI TO (rawInt g5.objs.size) from z7) (by simp) fun g8 z8 e8 => ?_))
  replace z8 : IsZip g8 z TI TO (rawInt g5.objs.size) := z8
  have e9 : Heap.ExtBut z g5 g8 := fun c o n q => e8.extBut _ _ n (e7.extBut _ _ n (Heap.get?_push_of_some _ q))
  have pT : IsPair g8 g5.objs.size x y := e8.extBut _ _ (Nat.ne_of_gt zl) (e7.extBut _ _ (Nat.ne_of_gt zl) (Heap.get?_push_size _ rfl))
  have s8 : g8.objs.size = g5.objs.size + 1 := by rw [e8.1, e7.1, Heap.size_push]
  have fin := hQ g8 (by rw [← sz]; exact z8) (e9 _ _ D.TOz p5) (f1.keep v1 e9 D.i1z D.l1z) (f2.keep v2 e9 D.i2z D.l2z) (by rw [← sz]; exact pT) (by rw [← sz]; exact s8) fun c o n1 n2 n3 n4 q => e9 c o n1 (k5 c o n1 n2 n3 n4 q)
  rw [← sz] at fin
  exact wpAny_pure ⟨_, rfl, fin⟩
theorem zip_feed_end {Q : PySem.Fin → Shared → Prop} (hh : A.handled = none) (f1 : Feed prog w i1 l1 xs T1) (f2 : Feed prog w i2 l2 ys T2) (D : ZipApart z TI TO i1 i2 l1 l2)
    (hz : IsZip s.heap z TI TO .none) (hTI : IsPair s.heap TI (.ref i1) (.ref i2)) (hTO : IsPair s.heap TO a b) (h1 : T1 k1 s.heap) (h2 : T2 k2 s.heap) (hend : xs[k1]? = none ∨ ys[k2]? = none)
    (hE : ∀ h' e, (∀ c o, c ≠ z → c ≠ TO → c ≠ i1 → c ≠ i2 → s.heap.get? c = some o → h'.get? c = some o) → (∃ o, h'.get? e = some o ∧ o.cls = .type "StopIteration") → E (.ref e) { s with heap := h' }) :
    wpAny (model prog w) A (Builtin.«zip.__next__» ⟨[.ref z], []⟩) Q E s := by
  have away : ∀ {h h' : Heap} {c e : Addr} {o : Obj}, IsZip h z TI TO .ellipsis → Heap.ExtBut c h h' → z ≠ c → h'.get? e = some o → o.cls = .type "StopIteration" → e ≠ z := fun hzz k n ho hc q => by
    subst q
    rw [k _ _ n hzz] at ho
    cases ho
    simp at hc
  show wpAny _ _ (field (.ref z) 2 >>= _) _ _ _
  refine wpAny_bind (wpAny_field hz rfl (x := .bool false) rfl ?_)
  show wpAny _ _ (field (.ref z) 3 >>= _) _ _ _
  refine wpAny_bind (wpAny_field hz rfl (x := .ref TI) rfl (wpAny_bind (wpAny_seqItems hTI rfl ?_)))
  show wpAny _ _ (Builtin.SmallTypes.ownedTupleIsFree (.ref z) >>= _) _ _ _
  unfold Builtin.SmallTypes.ownedTupleIsFree
  refine wpAny_bind (wpAny_bind (wpAny_field hz rfl (x := .none) rfl (wpAny_pure ?_)))
  simp only [if_true]
  refine wpAny_bind (wpAny_rule (wpAny_bind (wpAny_field hz rfl (x := .ref TO) rfl (wpAny_bind (wpAny_setField_rec hz (by simp) fun g1 z1 e1 => wpAny_bind ?_)))))
  replace z1 : IsZip g1 z TI TO .ellipsis := z1
  simp only [List.zipIdx_cons, List.zipIdx_nil, List.forIn_cons, List.forIn_nil]
  have t1 : T1 k1 g1 := f1.keep h1 e1.extBut D.i1z D.l1z
  have t2 : T2 k2 g1 := f2.keep h2 e1.extBut D.i2z D.l2z
  refine wpAny_bind (wpAny_bind (wpAny_onRaise ?_))
  show wpAny _ _ (Builtin.SmallTypes.nextOf (.ref i1) >>= _) _ _ _
  cases hx : xs[k1]? with
  | none =>
    refine wpAny_bind (f1.stop hh t1 hx fun g2 e e2 he => ?_)
    obtain ⟨oe, ho, hc⟩ := he
    have ne := away z1 e2 D.i1z.symm ho hc
    exact wpAny_setField_rec (e2 _ _ D.i1z.symm z1) (by simp) fun g3 _ e3 => hE g3 e (fun c o n1 _ n3 _ q => e3.extBut _ _ n1 (e2 _ _ n3 (e1.extBut _ _ n1 q))) ⟨oe, e3.extBut _ _ ne ho, hc⟩
  | some x =>
    have hy : ys[k2]? = none := hend.resolve_left (by rw [hx]; exact fun q => nomatch q)
    refine wpAny_bind (f1.item t1 hx fun g2 u1 e2 => wpAny_pure ?_)
    have p2 : IsPair g2 TO a b := e2.extBut _ _ D.TOi1 (e1.extBut _ _ D.TOz hTO)
    refine wpAny_bind (wpAny_seqItems p2 rfl (wpAny_bind (wpAny_updateSeq_pair p2 fun g3 p3 e3 => wpAny_bind (wpAny_letGo (wpAny_pure ?_)))))
    have t3 : T2 k2 g3 := f2.keep (f2.keep t2 e2.extBut D.i12.symm D.l2i1) e3.extBut D.TOi2.symm D.l2TO
    have z3 : IsZip g3 z TI TO .ellipsis := e3.extBut _ _ D.TOz.symm (e2.extBut _ _ D.i1z.symm z1)
    refine wpAny_bind (wpAny_bind (wpAny_onRaise ?_))
    show wpAny _ _ (Builtin.SmallTypes.nextOf (.ref i2) >>= _) _ _ _
    refine wpAny_bind (f2.stop hh t3 hy fun g4 e e4 he => ?_)
    obtain ⟨oe, ho, hc⟩ := he
    have ne := away z3 e4 D.i2z.symm ho hc
    exact wpAny_setField_rec (e4 _ _ D.i2z.symm z3) (by simp) fun g5 _ e5 => hE g5 e (fun c o n1 n2 n3 n4 q => e5.extBut _ _ n1 (e4 _ _ n4 (e3.extBut _ _ n2 (e2.extBut _ _ n3 (e1.extBut _ _ n1 q))))) ⟨oe, e5.extBut _ _ ne ho, hc⟩
theorem pyNext_feed_item {Q : Option Value → Shared → Prop} (f1 : Feed prog w i1 l1 xs T1) (f2 : Feed prog w i2 l2 ys T2) (D : ZipApart z TI TO i1 i2 l1 l2)
    (hz : IsZip s.heap z TI TO .none) (hTI : IsPair s.heap TI (.ref i1) (.ref i2)) (hTO : IsPair s.heap TO a b) (h1 : T1 k1 s.heap) (h2 : T2 k2 s.heap) (hx : xs[k1]? = some x) (hy : ys[k2]? = some y)
    (hQ : ∀ h', IsZip h' z TI TO (rawInt s.heap.objs.size) → IsPair h' TO x y → T1 (k1 + 1) h' → T2 (k2 + 1) h' → IsPair h' s.heap.objs.size x y → h'.objs.size = s.heap.objs.size + 1 →
      (∀ c o, c ≠ z → c ≠ TO → c ≠ i1 → c ≠ i2 → s.heap.get? c = some o → h'.get? c = some o) → Q (some (.ref s.heap.objs.size)) { s with heap := h' }) :
    wpAny (model prog w) A (pyNext (.ref z)) Q E s := by
  have hT : s.TypeIs (.ref z) "zip" := ⟨_, hz, rfl⟩
  unfold pyNext
  exact wpAny_bind (wpAny_attempt (wpAny_callSpecial?_slot (name := Str.ofString "__next__") hT F.slot_zip_next (wpAny_call_entry F.slot_zip_next hT F.entry_zip_next (zip_feed_item f1 f2 D hz hTI hTO h1 h2 hx hy fun h' a1 a2 a3 a4 a5 a6 a7 => wpAny_pure (hQ h' a1 a2 a3 a4 a5 a6 a7)) (F.args_zip_next_1 _))))
theorem pyNext_feed_end {Q : Option Value → Shared → Prop} (hh : A.handled = none) (f1 : Feed prog w i1 l1 xs T1) (f2 : Feed prog w i2 l2 ys T2) (D : ZipApart z TI TO i1 i2 l1 l2)
    (hz : IsZip s.heap z TI TO .none) (hTI : IsPair s.heap TI (.ref i1) (.ref i2)) (hTO : IsPair s.heap TO a b) (h1 : T1 k1 s.heap) (h2 : T2 k2 s.heap) (hend : xs[k1]? = none ∨ ys[k2]? = none)
    (hQ : ∀ h', (∀ c o, c ≠ z → c ≠ TO → c ≠ i1 → c ≠ i2 → s.heap.get? c = some o → h'.get? c = some o) → Q none { s with heap := h' }) : wpAny (model prog w) A (pyNext (.ref z)) Q E s := by
  have hT : s.TypeIs (.ref z) "zip" := ⟨_, hz, rfl⟩
  unfold pyNext
  refine wpAny_bind (wpAny_attempt (wpAny_callSpecial?_slot (name := Str.ofString "__next__") hT F.slot_zip_next (wpAny_call_entry F.slot_zip_next hT F.entry_zip_next (zip_feed_end hh f1 f2 D hz hTI hTO h1 h2 hend fun h' e hk he => ?_) (F.args_zip_next_1 _))))
  obtain ⟨o, ho, hc⟩ := he
  exact wpAny_bind (wpAny_isInstance (T := "StopIteration") (b := true) ⟨o, ho, hc⟩ isSubtype_stop (wpAny_pure (hQ _ hk)))
end
end
/-! ## the zip is made -/
def zm1 (h : Heap) (l : Addr) : Heap := h.push { cls := .type "list_iterator", data := .fields #[.ref l, .int 0 0] }
def zm2 (h : Heap) (l t : Addr) : Heap := (zm1 h l).push { cls := .type "tuple_iterator", data := .fields #[.ref t, .int 0 0] }
def zm3 (h : Heap) (l t : Addr) : Heap := (zm2 h l t).push { cls := .type "tuple", data := .seq #[.ref h.objs.size, .ref (zm1 h l).objs.size] }
def zm4 (h : Heap) (l t : Addr) : Heap := (zm3 h l t).push { cls := .type "tuple", data := .seq #[.none, .none] }
def zm5 (h : Heap) (l t : Addr) : Heap := (zm4 h l t).push { cls := .type "zip", data := .fields #[.none, .bool false, .bool false, .ref (zm2 h l t).objs.size, .ref (zm3 h l t).objs.size] }
theorem meets_zm (l t : Addr) (xs ys : Array Value) :
    Meets (Builtin.«zip.__new__» ⟨[.type "zip", .ref l, .ref t], []⟩) (fun _ R s => s.heap.IsList l xs ∧ s.heap.IsTuple t ys ∧ R (.ok (.ret (.ref (zm4 s.heap l t).objs.size))) { s with heap := zm5 s.heap l t }) :=
  .of_wp fun prog w A R s h => by
    obtain ⟨hp, g, d, tk, os⟩ := s
    obtain ⟨hl, ht, h⟩ := h
    have hsub := sub_zip
    have hL : Heap.IsList (Shared.heap ⟨hp, g, d, tk, os⟩) l xs := hl
    have hT : Heap.IsTuple (Shared.heap ⟨hp.push { cls := .type "list_iterator", data := .fields #[.ref l, .int 0 0] }, g, d, tk, os⟩) t ys := Heap.IsTuple.push ht _
    wp_walk using wpAny_pyIter_list hL, wpAny_pyIter_tuple hT
    exact ⟨_, rfl, h⟩
section
variable {prog : Program} {w : World} {A : Around} {E : Value → Shared → Prop} {s : Shared}
theorem call_zm {l t : Addr} {xs ys : Array Value} {Q : Value → Shared → Prop} (hl : s.heap.IsList l xs) (ht : s.heap.IsTuple t ys)
    (h : ∀ h', IsZip h' (s.heap.objs.size + 4) (s.heap.objs.size + 2) (s.heap.objs.size + 3) .none → IsPair h' (s.heap.objs.size + 2) (.ref s.heap.objs.size) (.ref (s.heap.objs.size + 1)) →
      IsPair h' (s.heap.objs.size + 3) .none .none → h'.IsListIter s.heap.objs.size l 0 → h'.IsTupleIter (s.heap.objs.size + 1) t 0 → (∀ c o, s.heap.get? c = some o → h'.get? c = some o) → Q (.ref (s.heap.objs.size + 4)) { s with heap := h' }) :
    wpAny (model prog w) A (call (.type "zip") [.ref l, .ref t]) Q E s := by
  refine callType_new F.called_zip (by decide) (F.typeCall_zip_2 _ _) (F.newCall_zip_2 _ _) (fun obj => F.args_object_init_3 obj _ _) F.entry_zip_new (meets_zm l t xs ys) ⟨hl, ht, ?_⟩
  have n1 : (zm1 s.heap l).objs.size = s.heap.objs.size + 1 := Heap.size_push ..
  have n2 : (zm2 s.heap l t).objs.size = s.heap.objs.size + 2 := by unfold zm2; rw [Heap.size_push, n1]
  have n3 : (zm3 s.heap l t).objs.size = s.heap.objs.size + 3 := by unfold zm3; rw [Heap.size_push, n2]
  have n4 : (zm4 s.heap l t).objs.size = s.heap.objs.size + 4 := by unfold zm4; rw [Heap.size_push, n3]
  have up3 : ∀ {c o}, (zm3 s.heap l t).get? c = some o → (zm5 s.heap l t).get? c = some o := fun q => Heap.get?_push_of_some _ (Heap.get?_push_of_some _ q)
  have up1 : ∀ {c o}, (zm1 s.heap l).get? c = some o → (zm5 s.heap l t).get? c = some o := fun q => up3 (Heap.get?_push_of_some _ (Heap.get?_push_of_some _ q))
  have g5 : (zm5 s.heap l t).get? (s.heap.objs.size + 4) = some { cls := .type "zip", data := .fields #[.none, .bool false, .bool false, .ref (s.heap.objs.size + 2), .ref (s.heap.objs.size + 3)] } := by
    rw [← n4, ← n2, ← n3]; exact Heap.get?_push_size _ rfl
  have g4 : (zm5 s.heap l t).get? (s.heap.objs.size + 3) = some { cls := .type "tuple", data := .seq #[.none, .none] } := by
    rw [← n3]; exact Heap.get?_push_of_some _ (Heap.get?_push_size _ rfl)
  have g3 : (zm5 s.heap l t).get? (s.heap.objs.size + 2) = some { cls := .type "tuple", data := .seq #[.ref s.heap.objs.size, .ref (s.heap.objs.size + 1)] } := by
    rw [← n2, ← n1]; exact up3 (Heap.get?_push_size _ rfl)
  have g2 : (zm5 s.heap l t).get? (s.heap.objs.size + 1) = some { cls := .type "tuple_iterator", data := .fields #[.ref t, .int 0 0] } := by
    rw [← n1]; exact up3 (Heap.get?_push_of_some _ (Heap.get?_push_size _ rfl))
  have g1 : (zm5 s.heap l t).get? s.heap.objs.size = some { cls := .type "list_iterator", data := .fields #[.ref l, .int 0 0] } := up1 (Heap.get?_push_size _ rfl)
  show _ ∧ _
  rw [n4]
  exact ⟨⟨_, g5, rfl⟩, h _ g5 g3 g4 ⟨_, g1, rfl, rfl⟩ ⟨_, g2, rfl, rfl⟩ fun c o q => up1 (Heap.get?_push_of_some _ q)⟩
end
/-! ## its turns -/
/-- a list at a and a tuple at b as they stand at each turn -/
def ItzM (K : PySem.W.Frag) (a b : Addr) : It :=
  ⟨fun i H => ∃ (xs ys : List V) (x y : V), SqL K H a xs ∧ SqT K H b ys ∧ xs[i]? = some x ∧ ys[i]? = some y,
    fun i H v H' => ∃ T x y, v = .ref T ∧ H T = none ∧ H' = upd H T (.tup [x, y]) ∧ (∀ xs, SqL K H a xs → xs[i]? = some x) ∧ ∀ ys, SqT K H b ys → ys[i]? = some y,
    fun i H => ∃ xs ys : List V, SqL K H a xs ∧ SqT K H b ys ∧ (xs.length ≤ i ∨ ys.length ≤ i)⟩
theorem five {c z TI TO i1 i2 : Addr} (h : c ∈ [z, TI, TO, i1, i2]) : c = z ∨ c = TI ∨ c = TO ∨ c = i1 ∨ c = i2 := by simpa using h
theorem turn_zm {P : Program} {w : World} {K : PySem.W.Frag} {elts : List Expr} {kk : Nat} {tpos : Pos} {a b z TI TO i1 i2 : Addr} (D : ZipApart z TI TO i1 i2 a b) :
    Turn P w K (.Tuple elts kk tpos) (ItzM K a b) [z, TI, TO, i1, i2] z (fun i h => IsZip h z TI TO .none ∧ IsPair h TI (.ref i1) (.ref i2) ∧ (∃ x y, IsPair h TO x y) ∧ h.IsListIter i1 a i ∧ h.IsTupleIter i2 b i) where
  mem := by simp
  obj := fun i h st c hc => by
    obtain ⟨hz, hTI, ⟨x, y, hTO⟩, ⟨o1, q1, _, d1⟩, ⟨o2, q2, _, d2⟩⟩ := st
    rcases five hc with rfl | rfl | rfl | rfl | rfl
    · exact ⟨_, hz, fun v q => nomatch q⟩
    · exact ⟨_, hTI, fun v q => nomatch q⟩
    · exact ⟨_, hTO, fun v q => nomatch q⟩
    · exact ⟨o1, q1, fun v q => by rw [d1] at q; cases q⟩
    · exact ⟨o2, q2, fun v q => by rw [d2] at q; cases q⟩
  keep := fun i h h' st k => by
    obtain ⟨hz, hTI, ⟨x, y, hTO⟩, h1, h2⟩ := st
    exact ⟨k z (by simp) _ hz, k TI (by simp) _ hTI, ⟨x, y, k TO (by simp) _ hTO⟩, h1.at fun o q => k i1 (by simp) o q, h2.at fun o q => k i2 (by simp) o q⟩
  item := by
    intro X hP hw hK hc i pins s σ H E I hf st hg
    subst hP hw hK
    obtain ⟨hz, hTI, ⟨x0, y0, hTO⟩, h1, h2⟩ := st
    obtain ⟨xs, ys, x, y, hqx, hqy, hx, hy⟩ := hg
    obtain ⟨its, rv, p, _⟩ := I.list hqx
    obtain ⟨its2, rv2, p2, _⟩ := I.tuple hqy
    obtain ⟨u, hu, ru⟩ := rv.get hx
    obtain ⟨u2, hu2, ru2⟩ := rv2.get hy
    have hzl : z < s.heap.objs.size := Heap.lt_size hz
    refine pyNext_feed_item (feedL (l := a) (items := its.toArray) D.l1i1) (feedT (l := b) (items := its2.toArray) D.l2i2) D hz hTI hTO ⟨h1, p.isList⟩ ⟨h2, p2⟩ (x := u) (y := u2) (by simpa using hu) (by simpa using hu2) fun h' z' TO' t1 t2 hT hsz hk => ?_
    refine ⟨_, rfl, wpAny_letOwnedTupleGo_zip (s := { s with heap := h' }) z' fun h'' z'' sb => ?_⟩
    have up : ∀ c o, c ≠ z → h'.get? c = some o → h''.get? c = some o := fun c o n q => (sb.2 c n).trans q
    have new : ObjOk X.prog X.w (upd H s.heap.objs.size (.tup [x, y])) h'' s.heap.objs.size (.tup [x, y]) :=
      ⟨by show 2 ≤ sizeLine; decide, [u, u2], .cons ru (.cons ru2 .nil), ⟨_, up _ _ (Nat.ne_of_gt hzl) hT, rfl, _, rfl⟩⟩
    have away : ∀ {c : Addr}, c ∉ [z, TI, TO, i1, i2] → c ≠ z ∧ c ≠ TI ∧ c ≠ TO ∧ c ≠ i1 ∧ c ≠ i2 := fun hb => by simpa using hb
    have I1 : Inv X pins σ (upd H s.heap.objs.size (.tup [x, y])) { s with heap := h'' } :=
      I.turnedNew (t' := s.toks) (ch := [z, TI, TO, i1, i2]) (fun c o hb q => by
        obtain ⟨n1, n2, n3, n4, n5⟩ := away hb
        exact up c o n1 (hk c o n1 n3 n4 n5 q)) hf (Nat.le_refl _) new
    refine ⟨.ref s.heap.objs.size, _, I1, rfl, ⟨_, x, y, rfl, I.hok.fresh (Nat.le_refl _), rfl, fun l hl => by rw [I.list_inj hl hqx]; exact hx, fun l hl => by rw [I.tuple_inj hl hqy]; exact hy⟩, ⟨z'', up _ _ D.TIz (hk _ _ D.TIz D.TITO D.TIi1 D.TIi2 hTI), ⟨u, u2, up _ _ D.TOz TO'⟩, t1.1.at fun o q => up _ o D.i1z q, t2.1.at fun o q => up _ o D.i2z q⟩, fun c hcm => ?_⟩
    have hlt : c < s.heap.objs.size := by
      rcases five hcm with rfl | rfl | rfl | rfl | rfl
      · exact hzl
      · exact Heap.lt_size hTI
      · exact Heap.lt_size hTO
      · obtain ⟨_, q, _⟩ := h1; exact Heap.lt_size q
      · obtain ⟨_, q, _⟩ := h2; exact Heap.lt_size q
    rw [upd_ne (Nat.ne_of_lt hlt)]
    exact (hf c hcm).1
  done := by
    intro X hP hw hK hc i pins s σ H E I hf st hg
    subst hP hw hK
    obtain ⟨hz, hTI, ⟨x0, y0, hTO⟩, h1, h2⟩ := st
    obtain ⟨xs, ys, hqx, hqy, hend⟩ := hg
    obtain ⟨its, rv, p, _⟩ := I.list hqx
    obtain ⟨its2, rv2, p2, _⟩ := I.tuple hqy
    have n1 := rv.length
    have n2 := rv2.length
    have he : its.toArray[i]? = none ∨ its2.toArray[i]? = none := hend.imp (fun q => by simp; omega) (fun q => by simp; omega)
    exact pyNext_feed_end (I.ok.hd hc) (feedL (l := a) (items := its.toArray) D.l1i1) (feedT (l := b) (items := its2.toArray) D.l2i2) D hz hTI hTO ⟨h1, p.isList⟩ ⟨h2, p2⟩ he fun h' hk => ⟨rfl, I.turnedL (t' := s.toks) (ch := [z, TI, TO, i1, i2]) (fun c o hb q => by
      have n : c ≠ z ∧ c ≠ TI ∧ c ≠ TO ∧ c ≠ i1 ∧ c ≠ i2 := by simpa using hb
      exact hk c o n.1 n.2.2.1 n.2.2.2.1 n.2.2.2.2 q) hf⟩
  self := fun A i s Q E st h => wpAny_pyIter_zip st.1 h
def iZipMx (K : PySem.W.Frag) (ta : TA) : TI := fun σ H R => ta σ H fun vs H1 => ∃ a b xs ys, vs = [.ref a, .ref b] ∧ SqL K H1 a xs ∧ SqT K H1 b ys ∧ R (ItzM K a b) H1
theorem pi_zipM {X : Cx} {e e2 : Expr} {ta : TA} {p pos tpos : Pos} {elts : List Expr} {kk : Nat} (hg : Gl X "zip") (hm : X.mg "zip" = none) (ha : PA X [e, e2] ta)
    (hs : starEach [e, e2] X.env = (false, eval e X.env) :: starEach [e2] X.env := by rfl) (hpl : (backTo pos (starEach [e2] X.env)).any (·.1) = false := by rfl) :
    PI X (.Tuple elts kk tpos) (.Call (.Name "zip" p) [e, e2] [] pos) (iZipMx X.K ta) := by
  refine ⟨fun pins s σ H R I h => ?_⟩
  refine Call_ (ld_blt I hg hm PyProof.Rows.boot_zip (PyProof.Rows.callWith_type1 (thn (ha.run pos pins s σ H _ I h) fun us s1 ⟨vs, H1, I1, r1, q1⟩ => ?_) hs hpl))
  obtain ⟨a, b, xs, ys, rfl, hqx, hqy, q⟩ := q1
  cases r1 with
  | cons r rr =>
    cases rr with
    | cons r' rr =>
      cases rr
      cases r
      cases r'
      obtain ⟨its, rv, p1, _⟩ := I1.list hqx
      obtain ⟨its2, rv2, p2, _⟩ := I1.tuple hqy
      obtain ⟨o2, ho2, _⟩ := id p2
      refine call_zm p1.isList (show s1.heap.IsTuple b its2.toArray from p2) fun h' hz hTI hTO h1 h2 hk => wpAny_pyIter_zip hz ?_
      have I2 : Inv X pins σ H1 { s1 with heap := h' } := I1.kept (t' := s1.toks) hk
      refine ⟨s1.heap.objs.size + 4, [s1.heap.objs.size + 4, s1.heap.objs.size + 2, s1.heap.objs.size + 3, s1.heap.objs.size, s1.heap.objs.size + 1], _, _, H1, rfl, I2, turn_zm (PySem.W.ktu_apart s1.heap.objs.size a b p1.lt (Heap.lt_size ho2)), ⟨hz, hTI, ⟨_, _, hTO⟩, h1, h2⟩, fun c hcm => ?_, q⟩
      have hle : s1.heap.objs.size ≤ c := by
        rcases five hcm with rfl | rfl | rfl | rfl | rfl
        · exact Nat.le_add_right _ _
        · exact Nat.le_add_right _ _
        · exact Nat.le_add_right _ _
        · exact Nat.le_refl _
        · exact Nat.le_add_right _ _
      exact I1.fpOk hle (I1.hok.fresh hle)
/-! ## of plain data -/
def iZipM (fr : LF) : IF := fun env st => (fr env st).bind fun ds st1 => match ds with
  | [.ref n, .tup ys] => (match seqOf (.ref n) st1 with
    | some xs => .ok (zipD xs ys, [(n, xs)]) st1
    | none => .bad)
  | _ => .bad
@[simp] theorem iZipM_ap (fr : LF) (env : AEnv) (st : Store) : iZipM fr env st = ((fr env st).bind fun ds st1 => match ds with
  | [.ref n, .tup ys] => (match seqOf (.ref n) st1 with
    | some xs => .ok (zipD xs ys, [(n, xs)]) st1
    | none => .bad)
  | _ => .bad) := (Eq.refl _).trans rfl
theorem IterR.zipM {G : GX} {μ : List Addr} {H : Hp} {st : Store} {n : Nat} {a b : Addr} {us : List V} {xs ys : List D} (hs : HS G μ H st) (ea : μ[n]? = some a) (q' : SqT G.K H b us) (r' : RelDs G μ H ys us) : IterR G μ H (zipD xs ys, [(n, xs)]) (ItzM G.K a b) := by
  have look : ∀ {μ1 H1 st1}, Ext μ H μ1 H1 → HS G μ1 H1 st1 → gOK (zipD xs ys, [(n, xs)]) st1 → ∃ vs, SqL G.K H1 a vs ∧ RelDs G μ1 H1 xs vs := by
    intro μ1 H1 st1 e hs1 g
    obtain ⟨ν, rfl, _, _⟩ := e
    exact hs1.seq (by rw [List.getElem?_append_left (List.getElem?_eq_some_iff.mp ea).1]; exact ea) (g (n, xs) (by simp))
  refine ⟨fun μ1 H1 st1 e hs1 g i hi => ?_, fun μ1 H1 st1 e hs1 g i x H2 hi y => ?_, fun μ1 H1 st1 e hs1 g => ?_⟩
  · obtain ⟨vs, q, r⟩ := look e hs1 g
    have hi : i < min xs.length ys.length := by rw [← zipD_len]; exact hi
    have h1 : i < vs.length := by rw [r.length]; omega
    have h2 : i < us.length := by rw [r'.length]; omega
    exact ⟨vs, us, vs[i], us[i], q, SqT_ext hs e q', by simp [h1], by simp [h2]⟩
  · obtain ⟨vs, q, r⟩ := look e hs1 g
    obtain ⟨T, x1, x2, rfl, nT, rfl, f1, f2⟩ := y
    obtain ⟨d1, e1, rd1⟩ := r.get' (f1 _ q)
    obtain ⟨d2, e2, rd2⟩ := r'.get' (f2 _ (SqT_ext hs e q'))
    have rd1 := RelD.ext hs1 (.new (o := .tup [x1, x2]) nT) _ _ rd1
    have rd2 := RelD.ext hs (e.trans (.new (o := .tup [x1, x2]) nT)) _ _ rd2
    exact ⟨.tup [d1, d2], by rw [zipD_get, e1, e2], .new nT, hs1.new nT, T, _, rfl, upd_same, .cons rd1 (.one rd2)⟩
  · obtain ⟨vs, q, r⟩ := look e hs1 g
    refine ⟨vs, us, q, SqT_ext hs e q', ?_⟩
    show vs.length ≤ (zipD xs ys).length ∨ us.length ≤ (zipD xs ys).length
    rw [zipD_len, r.length, r'.length]
    omega
section
variable {X : Cx} {W : WX} {a b : Expr} {fr : LF} {pos : Pos}
theorem ai_zipM {tpos p : Pos} {elts : List Expr} {kk : Nat} (hm : X.mg "zip" = none) (ha : AA X W [a, b] fr) (hg : Gl X "zip" := by rfl) (hs1 : starEach [a, b] X.env = (false, eval a X.env) :: starEach [b] X.env := by rfl)
    (hpl : (backTo pos (starEach [b] X.env)).any (·.1) = false := by rfl) : AI X W (.Tuple elts kk tpos) (.Call (.Name "zip" p) [a, b] [] pos) (iZipM fr) :=
  (pi_zipM hg hm ha hs1 hpl).weak fun σ H Q ⟨μ, env, st, hs, er, q⟩ => ⟨μ, env, st, hs, er, Post.bind q fun ds st1 μ1 H1 vs eq x1 hs' rs p1 => by
    split at p1
    · obtain ⟨v, rest, rfl, ⟨a, ea, rfl⟩, v2, rest2, rfl, ⟨b, ws, rfl, q2, r2⟩, e0⟩ := rs
      cases e0
      split at p1
      · rename_i xs e1
        obtain ⟨us, q1, r1⟩ := hs'.seq ea e1
        exact ⟨a, b, us, ws, rfl, q1, .of q2, p1 μ1 H1 _ .refl hs' (.zipM hs' ea (.of q2) r2)⟩
      · exact p1.elim
    · exact p1.elim⟩
end
end TK

set_option Elab.async false
set_option linter.all false
set_option maxRecDepth 100000
set_option maxHeartbeats 4000000
namespace TK
open PySem PySem.Spec
open PyProof.Rows hiding St
open L2
/-! # a loop over the keys of a dict that is not changed in it: the dict is locked -/
section
variable {G : GX} {μ μ' : List Addr} {H H' : Hp} {st : Store}
theorem Ext.frz (e : Ext μ H μ' H') {a : Addr} {ob : Obj} {u : HO} (h : H a = some (.frz ob u)) : H' a = some (.frz ob u) := by
  obtain ⟨_, _, _, k⟩ := e
  exact k a _ h (.inr ⟨ob, u, rfl⟩)
theorem relK_at {κ : Type} {f : D → Option κ} : ∀ {kvs : List (D × D)} {ks : List (κ × V)}, RelK G μ H f kvs ks → ∀ (i : Nat) (c : κ) (v : V), ks[i]? = some (c, v) → ∃ x d, kvs[i]? = some (x, d) ∧ f x = some c ∧ RelD G μ H d v
  | [], _, r, i, c, v, h => by cases r; simp at h
  | (x, d) :: kvs, _, r, i, c, v, h => by
    obtain ⟨c', v', rest, rfl, ec, rd, rs⟩ := r
    cases i with
    | zero =>
      simp only [List.getElem?_cons_zero, Option.some.injEq, Prod.mk.injEq] at h
      obtain ⟨rfl, rfl⟩ := h
      exact ⟨x, d, rfl, ec, rd⟩
    | succ i =>
      rw [List.getElem?_cons_succ] at h
      exact relK_at rs i c v h
theorem keyS_rel {d : D} {k : Key} (e : keyS d = some k) : RelD G μ H d (kV k) := by
  cases d <;> simp [keyS] at e
  · subst e; rfl
  · subst e; rfl
theorem IterR.keysT {d : Addr} {o : Obj} {kvs : List (D × D)} {ks : List (List Key × V)} (e : H d = some (.frz o (.dT ks))) (rk : RelK G μ H keyT kvs ks) : IterR G μ H (kvs.map (·.1), []) (Itkt d o ks) where
  go := fun μ1 H1 st1 x hs1 _ i hi => ⟨x.frz e, by rw [List.length_map] at hi; rw [relK_len rk]; exact hi⟩
  yld := fun μ1 H1 st1 x hs1 _ i y H2 hi h => by
    obtain ⟨rfl, k, v, q, hk, rfl, hq⟩ := h
    obtain ⟨z, w, h1, h2, _⟩ := relK_at rk i k v hk
    refine ⟨z, by rw [List.getElem?_map, h1]; rfl, .refl, hs1, ?_⟩
    cases z with
    | tup ds => exact ⟨q, k.map kV, rfl, hq, keySs_rel h2⟩
    | _ => simp [keyT] at h2
  stop := fun μ1 H1 st1 x hs1 _ => ⟨x.frz e, by rw [List.length_map, relK_len rk]; exact Nat.le_refl _⟩
theorem IterR.keysK {d : Addr} {o : Obj} {kvs : List (D × D)} {ks : List (Key × V)} (e : H d = some (.frz o (.dK ks))) (rk : RelK G μ H keyS kvs ks) : IterR G μ H (kvs.map (·.1), []) (Itk d o ks) where
  go := fun μ1 H1 st1 x hs1 _ i hi => ⟨x.frz e, by rw [List.length_map] at hi; rw [relK_len rk]; exact hi⟩
  yld := fun μ1 H1 st1 x hs1 _ i y H2 hi h => by
    obtain ⟨rfl, k, v, hk, rfl⟩ := h
    obtain ⟨z, w, h1, h2, _⟩ := relK_at rk i k v hk
    exact ⟨z, by rw [List.getElem?_map, h1]; rfl, .refl, hs1, keyS_rel h2⟩
  stop := fun μ1 H1 st1 x hs1 _ => ⟨x.frz e, by rw [List.length_map, relK_len rk]; exact Nat.le_refl _⟩
end
/-- the keys of a locked dict -/
def iKeysL (fe : EF) : IF := fun env st => (fe env st).bind fun d st1 => match d with
  | .ref n => (match st1[n]? with
    | some (.rdT kvs) => .ok (kvs.map (·.1), []) st1
    | some (.rdK kvs) => .ok (kvs.map (·.1), []) st1
    | _ => .bad)
  | _ => .bad
@[simp] theorem iKeysL_ap (fe : EF) (env : AEnv) (st : Store) : iKeysL fe env st = ((fe env st).bind fun d st1 => match d with
  | .ref n => (match st1[n]? with
    | some (.rdT kvs) => .ok (kvs.map (·.1), []) st1
    | some (.rdK kvs) => .ok (kvs.map (·.1), []) st1
    | _ => .bad)
  | _ => .bad) := (Eq.refl _).trans rfl
theorem ai_keysL {X : Cx} {W : WX} {tg e : Expr} {fe : EF} (he : AE X W e fe) : AI X W tg e (iKeysL fe) := (pi_keys he).weak fun σ H Q ⟨μ, env, st, hs, er, p⟩ =>
  ⟨μ, env, st, hs, er, Post.bind p fun d st1 μ1 H1 v _ x1 hs1 r1 p1 => by
    cases d with
    | ref n =>
      obtain ⟨a, e1, ev⟩ := r1
      simp only at p1
      split at p1
      · rename_i kvs q
        obtain ⟨_, e3, ob, ks, rfl, rk⟩ := hs1.obj n a _ e1 q
        exact ⟨a, ob, ev, .inr ⟨ks, e3, p1 μ1 H1 _ .refl hs1 (.keysT e3 rk)⟩⟩
      · rename_i kvs q
        obtain ⟨_, e3, ob, ks, rfl, rk⟩ := hs1.obj n a _ e1 q
        exact ⟨a, ob, ev, .inl ⟨ks, e3, p1 μ1 H1 _ .refl hs1 (.keysK e3 rk)⟩⟩
      · exact p1.elim
    | _ => exact p1.elim⟩
/-- unlocked again -/
def unlS (n : Nat) (s : Store) : Option Store := match s[n]? with
  | some (.rdT kvs) => some (s.set n (.dcT kvs))
  | some (.rdK kvs) => some (s.set n (.dct kvs))
  | _ => none
def unlR (n : Nat) (r : RS) : RS := match r with
  | .next env s => (match unlS n s with | some s' => .next env s' | none => .bad)
  | .brk env s => (match unlS n s with | some s' => .brk env s' | none => .bad)
  | .cont env s => (match unlS n s with | some s' => .cont env s' | none => .bad)
  | .ret d s => (match unlS n s with | some s' => .ret d s' | none => .bad)
  | _ => .bad
def lckS (n : Nat) (s : Store) : Option Store := match s[n]? with
  | some (.dcT kvs) => some (s.set n (.rdT kvs))
  | some (.dct kvs) => some (s.set n (.rdK kvs))
  | _ => none
/-- a statement during which a dict is locked -/
def sLock (v : Nat) (f : SF) : SF := fun env st => match env[v]? with
  | some (some (.ref n)) => (match lckS n st with
    | some st1 => unlR n (f env st1)
    | none => .bad)
  | _ => .bad
@[simp] theorem sLock_ap (v : Nat) (f : SF) (env : AEnv) (st : Store) : sLock v f env st = (match env[v]? with
  | some (some (.ref n)) => (match lckS n st with
    | some st1 => unlR n (f env st1)
    | none => .bad)
  | _ => .bad) := (Eq.refl _).trans rfl
section
variable {G : GX} {W : WX} {μ μ' : List Addr} {H H' : Hp} {st st1 st' : Store} {env : AEnv} {σ : St} {n : Nat} {d : Addr}
theorem unl_ok {u : HO} {od : Obj} {s s' : Store} (hs : HS G μ H st) (hn : μ[n]? = some d) (hd : H d = some u) (hk : (∃ ks, u = .dT ks) ∨ ∃ ks, u = .dK ks) (e : Ext μ (upd H d (.frz od u)) μ' H') (hs' : HS G μ' H' s) (hu : unlS n s = some s') :
    H' d = some (.frz od u) ∧ Ext μ H μ' (upd H' d u) ∧ HS G μ' (upd H' d u) s' ∧ NoTup H' d := by
  have hf : H' d = some (.frz od u) := e.frz upd_same
  have hn' : μ'[n]? = some d := by
    obtain ⟨ν, rfl, _⟩ := e
    rw [List.getElem?_append_left (List.getElem?_eq_some_iff.mp hn).1]
    exact hn
  refine ⟨hf, ?_, ?_, hs'.noTupAt hn'⟩
  · obtain ⟨ν, rfl, f, k⟩ := e
    refine ⟨ν, rfl, fun a ha => ?_, fun a o ho hc => ?_⟩
    · obtain ⟨h1, h2⟩ := f a ha
      refine ⟨?_, h2⟩
      by_cases c : a = d
      · subst c; rw [upd_same] at h1; cases h1
      · rw [upd_ne c] at h1; exact h1
    · by_cases c : a = d
      · subst c
        rw [upd_same, ← hd]; exact ho
      · rw [upd_ne c]
        exact k a o (by rw [upd_ne c]; exact ho) hc
  · unfold unlS at hu
    split at hu
    · rename_i kvs q
      obtain ⟨_, e3, ob, ks, rfl, rk⟩ := hs'.obj n d _ hn' q
      rw [hf] at e3
      cases e3
      cases hu
      exact hs'.put hn' ⟨ks, rfl, rk⟩
    · rename_i kvs q
      obtain ⟨_, e3, ob, ks, rfl, rk⟩ := hs'.obj n d _ hn' q
      rw [hf] at e3
      cases e3
      cases hu
      exact hs'.put hn' ⟨ks, rfl, rk⟩
    · cases hu
theorem lck_ok (hs : HS G μ H st) (hn : μ[n]? = some d) (hl : lckS n st = some st1) :
    ∃ u, H d = some u ∧ Mut (some u) ∧ ((∃ ks, u = .dT ks) ∨ ∃ ks, u = .dK ks) ∧ ∀ od, HS G μ (upd H d (.frz od u)) st1 := by
  unfold lckS at hl
  split at hl
  · rename_i kvs q
    obtain ⟨_, e3, ks, rfl, rk⟩ := hs.obj n d _ hn q
    cases hl
    exact ⟨_, e3, trivial, .inl ⟨ks, rfl⟩, fun od => hs.put hn ⟨od, ks, rfl, rk⟩⟩
  · rename_i kvs q
    obtain ⟨_, e3, ks, rfl, rk⟩ := hs.obj n d _ hn q
    cases hl
    exact ⟨_, e3, trivial, .inr ⟨ks, rfl⟩, fun od => hs.put hn ⟨od, ks, rfl, rk⟩⟩
  · cases hl
theorem as_lock {X : Cx} {s : Stmt} {f : SF} (v : Nat) (h : AS X W s f) : AS X W s (sLock v f) := (ps_lock h).weak fun Dn σ H ⟨μ, env, st, hs, er, p⟩ => by
  rw [sLock_ap] at p
  split at p
  · rename_i n ev
    split at p
    · rename_i st1 hl
      obtain ⟨vv, e1, a, hn, rfl⟩ := er.2 v _ ev
      obtain ⟨u, hd, mu, hk, hs1⟩ := lck_ok hs hn hl
      have er1 : ∀ od, EnvR (gx X) μ (upd H a (.frz od u)) env σ := fun od => er.wr (hs.noTupAt hn)
      refine ⟨a, u, hd, mu, fun od => ⟨μ, env, st1, hs1 od, er1 od, ?_⟩⟩
      have key : ∀ {μ' : List Addr} {H' : Hp} {s s' : Store}, Ext μ (upd H a (.frz od u)) μ' H' → HS (gx X) μ' H' s → unlS n s = some s' → H' a = some (.frz od u) ∧ Ext μ H μ' (upd H' a u) ∧ HS (gx X) μ' (upd H' a u) s' ∧ NoTup H' a := fun x hs' hu => unl_ok hs hn hd hk x hs' hu
      cases q : f env st1 with
      | next env' s =>
        rw [q] at p
        unfold unlR at p
        simp only at p
        split at p
        · rename_i s' hu
          intro μ' H' σ' x hs' er'
          obtain ⟨k1, k2, k3, k4⟩ := key x hs' hu
          exact ⟨k1, p μ' _ σ' k2 k3 (er'.wr k4)⟩
        · exact p.elim
      | brk env' s =>
        rw [q] at p
        unfold unlR at p
        simp only at p
        split at p
        · rename_i s' hu
          intro μ' H' σ' x hs' er'
          obtain ⟨k1, k2, k3, k4⟩ := key x hs' hu
          exact ⟨k1, p μ' _ σ' k2 k3 (er'.wr k4)⟩
        · exact p.elim
      | cont env' s =>
        rw [q] at p
        unfold unlR at p
        simp only at p
        split at p
        · rename_i s' hu
          intro μ' H' σ' x hs' er'
          obtain ⟨k1, k2, k3, k4⟩ := key x hs' hu
          exact ⟨k1, p μ' _ σ' k2 k3 (er'.wr k4)⟩
        · exact p.elim
      | ret d s =>
        rw [q] at p
        unfold unlR at p
        simp only at p
        split at p
        · rename_i s' hu
          intro μ' H' w x hs' rd
          obtain ⟨k1, k2, k3, k4⟩ := key x hs' hu
          exact ⟨k1, p μ' _ w k2 k3 (RelD.wr k4 _ _ rd)⟩
        · exact p.elim
      | exc env' x s => rw [q] at p; exact p.elim
      | bad => rw [q] at p; exact p.elim
    · exact p.elim
  · exact p.elim
end
/-! # {k: v}, the key a tuple -/
def tDisp1T (tk tv : TE) : TE := fun σ H Q => ∀ p, H p = none → tk σ (upd H p (.dT [])) fun x H1 => tv σ H1 fun y H2 => H2 p = some (.dT []) ∧ ∃ (c : List Key) (b : Addr), x = .ref b ∧ H2 b = some (.tup (c.map kV)) ∧ Q (.ref p) (upd H2 p (.dT (putK [] c y)))
theorem pe_disp1T {X : Cx} {pos : Pos} {k e : Expr} {tk tv : TE} (hu : X.A.units < cLine) (hk : PE X k tk) (hv : PE X e tv) : PE X (.Dict [some k] [e] pos) (tDisp1T tk tv) := by
  refine ⟨fun pins s σ H Q I q => ?_⟩
  have hn := I.hok.fresh (Nat.le_refl s.heap.objs.size)
  have I1 := I.laid (a := s.heap.objs.size) (o := .dT []) (h' := s.heap.push { cls := .type "dict", data := .dict #[] }) (t' := s.toks) (fun _ _ q => Heap.get?_push_of_some _ q) (Nat.le_refl _) (dt_empty s.heap I.big)
  have h : PPs X pos [some k] [e] [(tk, tv)] := pps_cons hk hv pps_nil
  have hz := zip_pairTrees [some k] [e] X.env pos rfl rfl
  rw [arm_eval_Dict, hz, dictDisplay_pairs _ (by simp [pairTrees]) (by simp [pairTrees])]
  refine wpAny_bind (wpAny_standAt (wpAny_bind ?_))
  unfold subDict
  refine wpAny_bind (wpAny_alloc ?_)
  refine wpAny_bind (wpAny_holding ?_)
  rw [if_pos (by simp [pairTrees])]
  have hr := h.run pins { s with heap := s.heap.push { cls := .type "dict", data := .dict #[] } } σ _ (fun ps H2 => match ps with
    | [(x, y)] => H2 s.heap.objs.size = some (.dT []) ∧ ∃ (c : List Key) (b : Addr), x = .ref b ∧ H2 b = some (.tup (c.map kV)) ∧ Q (.ref s.heap.objs.size) (upd H2 s.heap.objs.size (.dT (putK [] c y)))
    | _ => False) I1 (q _ hn)
  refine wpAny_bind (wpAny_mono hr (fun vs s1 h1 => ?_) fun _ _ z => z)
  obtain ⟨ps, H2, I2, rel, h2⟩ := h1
  match ps, rel, h2 with
  | [(x, y)], rel, h2 =>
    obtain ⟨hd, c, b, rfl, hb, q2⟩ := h2
    cases rel with
    | @cons p w ps ws r0 rt =>
    cases rt
    obtain ⟨u, r⟩ := w
    obtain ⟨ru, rr⟩ := r0
    cases (show u = Value.ref b from ru)
    refine wpAny_holding ?_
    obtain ⟨z, hd', xs, r1, dd⟩ := dt_of I2.hok hd
    have hz0 : xs.length ≤ sizeLine := by rw [← Paired.length r1]; exact z
    refine wpAny_bind ?_
    rw [List.forIn_cons]
    refine wpAny_bind (wpAny_bind (wpAny_dictSet_heap (knd := tupleKind (mixKind X.prog X.w)) (hsz := hz0) hu (key_of I2.hok hb) dd fun h' dd' hs => wpAny_pure ?_))
    dsimp only
    rw [List.forIn_nil]
    refine wpAny_pure (wpAny_pure (wpAny_pure (wpAny_pure ?_)))
    have hl : (putK ([] : List (List Key × V)) c y).length ≤ sizeLine := by
      have h1 := length_putK ([] : List (List Key × V)) c y
      rw [List.length_nil] at h1
      rw [sizeLine_eq]; omega
    obtain ⟨qo, es, ep, hq, h2, h3, h4, _, h5⟩ := dd'
    refine ⟨.ref s.heap.objs.size, _, ?_, rfl, q2⟩
    refine d_write I2 (by rw [hd]; exact True.intro) hs ⟨qo, hq⟩ ⟨hl, hd', _, (r1.put c hb rr).keeps fun a ys ec => ?_, qo, es, ep, hq, h2, h3, h4, h5⟩
    rw [upd_ne (ne_of ec hd (fun z => nomatch z))]
    exact ec
  | [], _, h2 => exact h2.elim
  | _ :: _ :: _, _, h2 => exact h2.elim
section
variable {X : Cx} {W : WX} {e k : Expr} {fe fk : EF} {pos : Pos} {lv : Nat}
def dct1T (x d : D) (st : Store) : R D := match keyT x with
  | some _ => .ok (.ref st.length) (st ++ [.dcT [(x, d)]])
  | none => .bad
def eDct1T (fk fe : EF) : EF := fun env st => (fk env st).bind fun x st1 => (fe env st1).bind fun d st2 => dct1T x d st2
theorem ae_dct1T (cx : Ctx X W lv) (hk : AE X W k fk) (he : AE X W e fe) : AE X W (.Dict [some k] [e] pos) (eDct1T fk fe) :=
  (pe_disp1T (by have := Room.units65 cx.room; omega) hk he).weak fun σ H Q ⟨μ, env, st, hs, er, p⟩ => fun q hq => by
    have hn : q ∉ μ := hs.fresh hq
    have x0 : Ext μ H μ (upd H q (.dT [])) := .new hq
    have hs0 : HS (gx X) μ (upd H q (.dT [])) st := hs.new hq
    refine ⟨μ, env, st, hs0, er.ext hs x0, ?_⟩
    unfold eDct1T at p
    cases q1 : fk env st with
    | bad => rw [q1] at p; exact p.elim
    | exc x st1 => rw [q1] at p; exact fun μ' H' C od x1 h1 r1 => p μ' H' C od (x0.trans x1) h1 r1
    | ok x st1 =>
      rw [q1] at p
      intro μ1 H1 kv x1 hs1 r1
      refine ⟨μ1, env, st1, hs1, (er.ext hs x0).ext hs0 x1, ?_⟩
      cases q2 : fe env st1 with
      | bad => simp only [R.bind_ok, q2] at p; exact p.elim
      | exc x' st2 => simp only [R.bind_ok, q2] at p; exact fun μ' H' C od x2 h2 r2 => p μ' H' C od ((x0.trans x1).trans x2) h2 r2
      | ok d st2 =>
        simp only [R.bind_ok, q2] at p
        intro μ2 H2 v x2 hs2 r2
        have x02 := x1.trans x2
        have hp2 : H2 q = some (.dT []) := by
          obtain ⟨ν, _, _, c⟩ := x02
          exact c q _ (upd_same) (.inl hn)
        have hn2 : q ∉ μ2 := by
          obtain ⟨ν, rfl, f, c⟩ := x02
          intro hm
          rcases List.mem_append.mp hm with h | h
          · exact hn h
          · have := (f q h).1
            rw [upd_same] at this; cases this
        have rk := RelD.ext hs1 x2 _ _ r1
        unfold dct1T at p
        cases ek : keyT x with
        | none => rw [ek] at p; exact p.elim
        | some kk =>
          rw [ek] at p
          obtain ⟨b, rfl, hb⟩ := keyT_ok rk ek
          have xA : Ext μ H (μ2 ++ [q]) H2 := (x0.trans x02).adopt hq hn2
          have hsA : HS (gx X) (μ2 ++ [q]) H2 (st2 ++ [.dcT []]) := hs2.adopt hp2 hn2 ⟨[], rfl, rfl⟩
          have rdA : RelD (gx X) (μ2 ++ [q]) H2 d v := RelD.pre _ _ r2
          have e1 : (μ2 ++ [q])[st2.length]? = some q := by rw [← hs2.len, List.getElem?_append_right (Nat.le_refl _)]; simp
          have hsB := hsA.put (ao := .dcT [(x, d)]) (o' := .dT [(kk, v)]) e1 ⟨_, rfl, _, _, _, rfl, ek, rdA, rfl⟩
          have xB : Ext (μ2 ++ [q]) H2 (μ2 ++ [q]) (upd H2 q (.dT [(kk, v)])) := .put e1 hp2
          refine ⟨hp2, kk, b, rfl, hb, ?_⟩
          have est : (st2 ++ [AO.dcT []]).set st2.length (.dcT [(x, d)]) = st2 ++ [.dcT [(x, d)]] := by simp
          rw [est] at hsB
          have em : putK ([] : List (List Key × V)) kk v = [(kk, v)] := rfl
          rw [em]
          exact p (μ2 ++ [q]) _ _ (xA.trans xB) hsB ⟨q, e1, rfl⟩
@[simp] theorem eDct1T_ap (fk fe : EF) (env : AEnv) (st : Store) : eDct1T fk fe env st = ((fk env st).bind fun x st1 => (fe env st1).bind fun d st2 => dct1T x d st2) := (Eq.refl _).trans rfl
end
end TK

set_option Elab.async false
set_option linter.all false
set_option maxRecDepth 100000
set_option maxHeartbeats 4000000
namespace TK
open PySem PySem.Spec
open PyProof.Rows hiding St
open L2
/-! # pairs of a number and a tuple of ints: sorted, and the least one -/
/-- as plain data; the pair (n, x) is told by n :: x -/
def encP (l : List Int) : PyData := .tuple [.int (l.headD 0), .tuple (l.tail.map PyData.int)]
theorem lt_lex : ∀ x y : List Int, decide (x < y) = HT.lexLt x y
  | [], [] => by simp [HT.lexLt]
  | [], y :: ys => by simp [HT.lexLt]
  | x :: xs, [] => by simp [HT.lexLt]
  | x :: xs, y :: ys => by
    rw [HT.lexLt_cons, ← lt_lex xs ys]
    by_cases h : x = y
    · subst h; simp [List.cons_lt_cons_iff]
    · simp [h, List.cons_lt_cons_iff]
theorem eqv_intsP : ∀ x y : List Int, PyData.eqvAll (x.map PyData.int) (y.map PyData.int) = decide (x = y)
  | [], [] => by simp [PyData.eqvAll]
  | [], y :: ys => by simp [PyData.eqvAll]
  | x :: xs, [] => by simp [PyData.eqvAll]
  | x :: xs, y :: ys => by
    rw [List.map_cons, List.map_cons, PyData.eqvAll, eqv_intsP xs ys]
    simp only [PyData.eqv]
    by_cases h : x = y
    · subst h; simp
    · simp [h]
theorem encP_lt {l m : List Int} (hl : l ≠ []) (hm : m ≠ []) : PySem.W.dataLt (encP l) (encP m) = HT.lexLt l m := by
  cases l with
  | nil => exact absurd rfl hl
  | cons a x =>
    cases m with
    | nil => exact absurd rfl hm
    | cons b y =>
      show PySem.W.dataLt (.tuple [.int a, .tuple (x.map PyData.int)]) (.tuple [.int b, .tuple (y.map PyData.int)]) = _
      rw [PySem.W.dataLt_pair (by simp [PySem.W.alike]) (by rw [PySem.W.alike]; exact PySem.W.alike_ints x y), HT.lexLt_cons]
      have e1 : PyData.eqv (.int a) (.int b) = decide (a = b) := by
        rw [Bool.eq_iff_iff]
        simp [PyData.eqv]
      have e2 : PyData.eqv (.tuple (x.map PyData.int)) (.tuple (y.map PyData.int)) = decide (x = y) := by
        rw [← eqv_intsP]
        rfl
      have e3 : PySem.W.dataLt (.tuple (x.map PyData.int)) (.tuple (y.map PyData.int)) = HT.lexLt x y := by
        rw [PySem.W.dataLt_tuple, ← lt_lex, ← PySem.W.dataLt_ints]
        rfl
      rw [e1, e2, e3, PySem.W.dataLt_int]
      by_cases c : a = b
      · subst c
        simp only [decide_true, if_true]
        by_cases d : x = y
        · subst d
          rw [decide_eq_true rfl, if_pos rfl, ← lt_lex]
          simp
        · rw [decide_eq_false d, if_neg (by simp)]
      · rw [decide_eq_false c, if_neg (by simp), if_neg c]
theorem encP_alike (l m : List Int) : PySem.W.alike (encP l) (encP m) = true := by
  have := PySem.W.alike_ints l.tail m.tail
  unfold encP
  simp only [PySem.W.alike, PySem.W.alikeAll, this, Bool.and_self]
theorem encP_depth (l : List Int) : (encP l).depth ≤ 2 := by
  have := PySem.W.depth_ints l.tail
  unfold encP
  simp only [PyData.depth, PyData.depthAll, this]
  decide
section
variable {X : Cx} {pins : List (Addr × Obj)} {σ : St} {H : Hp} {s : Shared}
/-- x is such a pair -/
def PrI (K : PySem.W.Frag) (H : Hp) (x : V) (l : List Int) : Prop := ∃ a t, x = .ref a ∧ l ≠ [] ∧ SqT K H a [V.int (l.headD 0), .ref t] ∧ SqT K H t (l.tail.map V.int)
theorem ints_reads {h : Heap} : ∀ {vs : List Value} {ns : List Int}, IntsAre vs ns → ∃ as, ReadsAll h vs (ns.map PyData.int) as
  | _, _, .nil => ⟨[], .nil⟩
  | _, _, .cons n t r => by
    obtain ⟨as, h1⟩ := ints_reads (h := h) r
    exact ⟨_, .cons (.int n t) h1⟩
theorem prI_reads (I : Inv X pins σ H s) {x : V} {l : List Int} (h : PrI X.K H x l) : ∃ a, x = .ref a ∧ ∃ as, Reads s.heap (.ref a) (encP l) as := by
  obtain ⟨a, t, rfl, hl, h1, h2⟩ := h
  refine ⟨a, rfl, ?_⟩
  obtain ⟨its, rv, hT, _⟩ := I.tuple h1
  obtain ⟨u, xs, e2, hT2, i2⟩ := tupI_raw I h2
  cases e2
  cases rv with
  | cons r1 rt =>
    cases rt with
    | cons r2 rt2 =>
      cases rt2
      obtain ⟨tk, rfl⟩ := (show ∃ t, _ = Value.int (l.headD 0) t from r1)
      cases r2
      obtain ⟨o, ho, hc, n, hd⟩ := hT
      obtain ⟨o2, ho2, hc2, n2, hd2⟩ := hT2
      obtain ⟨as, hr⟩ := ints_reads (h := s.heap) i2
      exact ⟨_, .tuple ho hc hd (.cons (.int _ _) (.cons (.tuple ho2 hc2 hd2 hr) .nil))⟩
/-- sorted(xs), xs such pairs -/
def rSortPI (K : PySem.W.Frag) : List V → Hp → VK → Prop := fun vs H Q => ∃ (a : Addr) (xs : List V) (k : V → List Int), vs = [V.ref a] ∧ SqL K H a xs ∧ (∀ x ∈ xs, PrI K H x (k x)) ∧
  ∀ (ys : List V) (p : Addr), ys.Perm xs → ys.Pairwise (fun x y => HT.lexLt (k y) (k x) = false) → H p = none → Q (.ref p) (upd H p (.lst ys))
theorem eachIs_map {f : Value → V} {R : Value → V → Prop} : ∀ {vs : List Value}, (∀ v ∈ vs, R v (f v)) → PySem.W.EachIs R vs (vs.map f)
  | [], _ => .nil
  | v :: vs, h => .cons (h v List.mem_cons_self) (eachIs_map fun u hu => h u (List.mem_cons_of_mem _ hu))
theorem eachIs_eq {f : Value → V} : ∀ {vs : List Value} {bs : List V}, PySem.W.EachIs (fun v b => b = f v ∧ ∃ a, v = Value.ref a) vs bs → bs = vs.map f ∧ ∀ v ∈ vs, ∃ a, v = Value.ref a
  | _, _, .nil => ⟨rfl, fun v hv => absurd hv (by simp)⟩
  | _, _, .cons r t => by
    obtain ⟨h1, h2⟩ := eachIs_eq t
    refine ⟨by rw [List.map_cons, ← h1, r.1], fun v hv => ?_⟩
    rcases List.mem_cons.mp hv with rfl | hv
    · exact r.2
    · exact h2 v hv
theorem cr_sortPI (hu : X.A.units + 5 < cLine) : CallR X (.builtin "sorted") (rSortPI X.K) := by
  intro pins s σ H vs us Q I r h
  obtain ⟨a, xs, k, rfl, hs, hx, q⟩ := h
  obtain ⟨its, rv, hl, hz⟩ := I.list hs
  rw [Vals.ref1 r]
  obtain ⟨b1, b2⟩ := bkV_refs rv fun x m => by
    obtain ⟨t, _, e, _⟩ := hx x m
    exact ⟨t, e⟩
  have hm : ∀ u ∈ its, bkV u ∈ xs := fun u hu => by rw [b1]; exact List.mem_map.mpr ⟨u, hu, rfl⟩
  have hne : ∀ x ∈ xs, k x ≠ [] := fun x m => by
    obtain ⟨_, _, _, h, _⟩ := hx x m
    exact h
  have e0 : PySem.W.EachIs (fun v b => b = bkV v ∧ ∃ a, v = Value.ref a) its xs := by
    rw [b1]
    exact eachIs_map fun v hv => ⟨rfl, b2 v hv⟩
  have er : PySem.W.EachIs (fun v b => ∃ as, Reads s.heap v (encP (k b)) as) its xs := by
    rw [b1]
    refine eachIs_map fun v hv => ?_
    obtain ⟨t, et, as, hr⟩ := prI_reads I (hx _ (hm v hv))
    rw [bkV_ref et]
    rw [bkV_ref et] at hr
    exact ⟨as, hr⟩
  refine PySem.W.sorted_data (R := fun v b => b = bkV v ∧ ∃ a, v = Value.ref a) (enc := fun b => encP (k b)) hl.isList e0 er (PySem.W.AllAlike.of fun b b' => encP_alike _ _) (PySem.W.Sortable.tuples fun b => ⟨_, _, rfl⟩) hz (fun b hb => by have := encP_depth (k b); omega) fun out hlen ho => ?_
  obtain ⟨ep, he'⟩ := PyProof.Rows.sortedAll_at s.heap its out.toArray
  obtain ⟨c1, c2⟩ := eachIs_eq ho
  have hp : (out.map bkV).Perm xs := by
    rw [← c1]
    exact List.mergeSort_perm _ _
  have hln : (out.map bkV).length ≤ sizeLine := by
    rw [hp.length_eq]
    exact hz
  have le_eq : ∀ x ∈ xs, ∀ y ∈ xs, PySem.W.dataLe false (fun b => encP (k b)) x y = !HT.lexLt (k y) (k x) := fun x hx y hy => by
    rw [PySem.W.dataLe_eq]
    show (!PySem.W.dataLt (encP (k y)) (encP (k x))) = _
    rw [encP_lt (hne y hy) (hne x hx)]
  refine ⟨.ref _, upd H (s.heap.objs.size + 1) (.lst (out.map bkV)), I.laid (t' := s.toks) (fun _ _ => PyProof.Rows.sortedAll_old) (Nat.le_succ _) ⟨hln, out, ep, bkV_vals c2, he'⟩, rfl, q _ _ hp ?_ (I.hok.fresh (Nat.le_succ _))⟩
  have pw : (xs.mergeSort (PySem.W.dataLe false fun b => encP (k b))).Pairwise fun x y => PySem.W.dataLe false (fun b => encP (k b)) x y = true :=
    PySem.W.sort_pairwise (PySem.W.sortLe_total _ false _) xs
  rw [← c1]
  refine List.Pairwise.imp_of_mem (fun {x y} mx my h => ?_) pw
  have mx' := (List.mergeSort_perm xs (PySem.W.dataLe false fun b => encP (k b))).mem_iff.mp mx
  have my' := (List.mergeSort_perm xs (PySem.W.dataLe false fun b => encP (k b))).mem_iff.mp my
  rw [le_eq x mx' y my'] at h
  simpa using h
/-! ## the least -/
theorem argBest_le (bt : Nat → Nat → Bool) (m : Nat) : argBest bt m ≤ m := by
  induction m with
  | zero => exact Nat.le_refl _
  | succ m ih =>
    unfold argBest
    split
    · exact Nat.le_refl _
    · omega
theorem argBest_min (K : Nat → List Int) (m : Nat) : ∀ j, j ≤ m → HT.lexLt (K j) (K (argBest (fun i j => HT.lexLt (K i) (K j)) m)) = false := by
  induction m with
  | zero =>
    intro j hj
    obtain rfl : j = 0 := by omega
    show HT.lexLt (K 0) (K 0) = false
    rw [← lt_lex]
    simp
  | succ m ih =>
    intro j hj
    unfold argBest
    split
    · rename_i c
      by_cases e : j = m + 1
      · subst e
        rw [← lt_lex]
        simp
      · have h1 := ih j (by omega)
        cases h2 : HT.lexLt (K j) (K (m + 1)) with
        | false => rfl
        | true =>
          have h3 : LeL (K (m + 1)) (K j) → False := fun z => by unfold LeL at z; rw [h2] at z; cases z
          have := LeL.trans (x := K (argBest (fun i j => HT.lexLt (K i) (K j)) m)) (y := K j) (z := K (m + 1)) h1 (by
            unfold LeL
            cases h4 : HT.lexLt (K (m + 1)) (K j) with
            | false => rfl
            | true =>
              rw [← lt_lex] at h2 h4
              exact absurd (of_decide_eq_true h2) (List.lt_asymm (of_decide_eq_true h4)))
          unfold LeL at this
          rw [this] at c
          cases c
    · rename_i c
      by_cases e : j = m + 1
      · subst e
        simpa using c
      · exact ih j (by omega)
/-- min(xs), xs such pairs -/
def rMinPI (K : PySem.W.Frag) : List V → Hp → VK → Prop := fun vs H Q => ∃ (a : Addr) (xs : List V) (k : V → List Int), vs = [V.ref a] ∧ SqL K H a xs ∧ (∀ x ∈ xs, PrI K H x (k x)) ∧ xs ≠ [] ∧
  ∀ y ∈ xs, (∀ z ∈ xs, HT.lexLt (k z) (k y) = false) → Q y H
theorem cmpIn_congr {prog : Program} {w : World} {A : Around} {op : CmpOp} {h : Heap} {P : Nat → Value → Prop} {bt bt' : Nat → Nat → Bool} (c : PySem.CmpIn prog w A op h P bt) (e : ∀ i j vi vj, P i vi → P j vj → bt i j = bt' i j) : PySem.CmpIn prog w A op h P bt' := fun i j vi vj s' Q E hk hi hj hq => c i j vi vj s' Q E hk hi hj (by rw [e i j vi vj hi hj]; exact hq)
theorem cr_minPI (hc : X.calm = true) (hu : X.A.units + 5 < cLine) : CallR X (.builtin "min") (rMinPI X.K) := by
  intro pins s σ H vs us Q I r h
  obtain ⟨a, xs, k, rfl, hs, hx, hne0, q⟩ := h
  obtain ⟨its, rv, hl, hz⟩ := I.list hs
  rw [Vals.ref1 r]
  obtain ⟨b1, b2⟩ := bkV_refs rv fun x m => by
    obtain ⟨t, _, e, _⟩ := hx x m
    exact ⟨t, e⟩
  have hm : ∀ u ∈ its, bkV u ∈ xs := fun u hu => by rw [b1]; exact List.mem_map.mpr ⟨u, hu, rfl⟩
  have hne : ∀ x ∈ xs, k x ≠ [] := fun x m => by
    obtain ⟨_, _, _, h, _⟩ := hx x m
    exact h
  have hr : ∀ (us : List Value), (∀ u ∈ us, u ∈ its) → ∃ as, ReadsAll s.heap us (us.map fun u => encP (k (bkV u))) as := fun us => by
    induction us with
    | nil => intro _; exact ⟨[], .nil⟩
    | cons u us ih =>
      intro hsub
      obtain ⟨as, h1⟩ := ih fun v hv => hsub v (List.mem_cons_of_mem _ hv)
      obtain ⟨t, et, as2, h2⟩ := prI_reads I (hx _ (hm u (hsub u List.mem_cons_self)))
      have eu := bkV_ref et
      rw [← eu] at h2
      exact ⟨_, .cons h2 h1⟩
  obtain ⟨as, hr⟩ := hr its fun u hu => hu
  have hnz : 0 < its.length := by
    rw [List.length_pos_iff]
    intro e
    rw [e] at b1
    exact hne0 (by rw [b1]; rfl)
  have hra : ReadsAll s.heap its.toArray.toList (its.map fun u => encP (k (bkV u))) as := by simpa using hr
  have hal : PySem.W.AlikeAll (its.map fun u => encP (k (bkV u))) := by
    refine ⟨fun x hx y hy => ?_, fun x hx => ?_⟩
    · obtain ⟨u, _, rfl⟩ := List.mem_map.mp hx
      obtain ⟨v, _, rfl⟩ := List.mem_map.mp hy
      exact encP_alike _ _
    · obtain ⟨u, _, rfl⟩ := List.mem_map.mp hx
      unfold encP
      simp
  have hdp : PyData.depthAll (its.map fun u => encP (k (bkV u))) ≤ 2 := by
    clear hra hal hr hnz
    have : ∀ us : List Value, PyData.depthAll (us.map fun u => encP (k (bkV u))) ≤ 2 := fun us => by
      induction us with
      | nil => exact Nat.zero_le _
      | cons u us ih =>
        rw [List.map_cons]
        show max _ _ ≤ 2
        exact Nat.max_le.mpr ⟨encP_depth _, ih⟩
    exact this its
  have hh := I.ok.hd hc
  refine PySem.call_min_walkH (PySem.W.iter_listW (A := X.A.in1) hh hl.isList fun s₂ e W st hfp hw hk => ?_)
  have cmp0 := PySem.W.cmpIn_lt (prog := X.prog) (w := X.w) (A := X.A.in1) hra hal (by show X.A.units + 1 + _ < _; omega)
  have cmp : PySem.CmpIn X.prog X.w X.A.in1 .Lt s.heap (fun i v => its.toArray[i]? = some v) (fun i j => HT.lexLt (k ((its.map bkV).getD i .non)) (k ((its.map bkV).getD j .non))) := cmpIn_congr cmp0 fun i j vi vj hi hj => by
    have hi' : its[i]? = some vi := by simpa using hi
    have hj' : its[j]? = some vj := by simpa using hj
    have g1 : (its.map fun u => encP (k (bkV u))).getD i .none = encP (k (bkV vi)) := by rw [List.getD_eq_getElem?_getD, List.getElem?_map, hi']; rfl
    have g2 : (its.map fun u => encP (k (bkV u))).getD j .none = encP (k (bkV vj)) := by rw [List.getD_eq_getElem?_getD, List.getElem?_map, hj']; rfl
    have g3 : (its.map bkV).getD i .non = bkV vi := by rw [List.getD_eq_getElem?_getD, List.getElem?_map, hi']; rfl
    have g4 : (its.map bkV).getD j .non = bkV vj := by rw [List.getD_eq_getElem?_getD, List.getElem?_map, hj']; rfl
    rw [g1, g2, g3, g4, encP_lt (hne _ (hm vi (List.mem_of_getElem? hi'))) (hne _ (hm vj (List.mem_of_getElem? hj')))]
  refine ⟨_, _, _, _, _, _, _, s.heap, _, rfl, W, st, hfp, by simpa using hnz, hw, hk, cmp, fun v s' hP m => ?_⟩
  obtain ⟨h', tk, rfl, hk'⟩ := PySem.W.moved_old e rfl m
  have hP' : its[argBest (fun i j => HT.lexLt (k ((its.map bkV).getD i .non)) (k ((its.map bkV).getD j .non))) (its.length - 1)]? = some v := by simpa using hP
  have hv := List.mem_of_getElem? hP'
  obtain ⟨t, et, _⟩ := prI_reads I (hx _ (hm v hv))
  have ev := bkV_ref et
  refine ⟨bkV v, H, I.kept hk', ?_, q _ (hm v hv) fun z hz => ?_⟩
  · rw [ev]
    show RelV (.ref t) (.ref t)
    rfl
  · rw [b1] at hz
    obtain ⟨j, hj, ej⟩ := List.getElem_of_mem hz
    rw [List.length_map] at hj
    have := argBest_min (fun i => k ((its.map bkV).getD i .non)) (its.length - 1) j (by omega)
    have g1 : (its.map bkV).getD j .non = z := by rw [List.getD_eq_getElem?_getD, List.getElem?_eq_getElem (by simpa using hj), ← ej]; rfl
    have g2 : (its.map bkV).getD (argBest (fun i j => HT.lexLt (k ((its.map bkV).getD i .non)) (k ((its.map bkV).getD j .non))) (its.length - 1)) .non = bkV v := by rw [List.getD_eq_getElem?_getD, List.getElem?_map, hP']; rfl
    simp only [g1, g2] at this
    exact this
end
/-! ## the same, of plain data -/
def prD (l : List Int) : D := .tup [.int (l.headD 0), .tup (l.tail.map D.int)]
def pairsOf : List D → Option (List (List Int))
  | [] => some []
  | .tup [.int n, .tup ds] :: r => (match intsOf ds, pairsOf r with
    | some x, some L => some ((n :: x) :: L)
    | _, _ => none)
  | _ => none
def sortPG (ds : List D) (st : Store) : R (List D) := match pairsOf ds with
  | some L => .ok ((sortL L).map prD) st
  | none => .bad
def minPG (ds : List D) (st : Store) : R D := match pairsOf ds with
  | some L => (match sortL L with
    | l :: _ => .ok (prD l) st
    | [] => .bad)
  | none => .bad
def kP (H : Hp) : V → List Int
  | .ref a => (match H a with
    | some (.tup [.int n, .ref t]) => (match H t with
      | some (.tup us) => n :: us.map vI
      | _ => [])
    | _ => [])
  | _ => []
theorem pairsOf_rel {G : GX} {μ : List Addr} {H : Hp} : ∀ {ds : List D} {vs : List V} {L : List (List Int)}, RelDs G μ H ds vs → pairsOf ds = some L → vs.map (kP H) = L ∧ ∀ v ∈ vs, PrI G.K H v (kP H v) ∧ RelD G μ H (prD (kP H v)) v
  | [], _, L, r, e => by cases r; cases e; exact ⟨rfl, fun v hv => absurd hv (by simp)⟩
  | d :: ds, vs, L, r, e => by
    obtain ⟨v, rest, rfl, rd, rs⟩ := r
    unfold pairsOf at e
    split at e
    · rename_i h0
      cases h0
    · rename_i n es r' h0
      cases h0
      split at e
      · rename_i x L' h1 h2
        cases e
        obtain ⟨a, ws, rfl, q, ra⟩ := rd
        obtain ⟨v1, r1, rfl, rd1, ra1⟩ := ra
        obtain ⟨v2, r2, rfl, rd2, ra2⟩ := ra1
        cases ra2
        cases rd1
        obtain ⟨t, us, rfl, qt, rt⟩ := rd2
        obtain ⟨i1, i2⟩ := pairsOf_rel rs h2
        have hw := intsOf_ok rt h1
        have hk : kP H (.ref a) = n :: x := by
          unfold kP
          simp only [q, qt, hw]
          show n :: (x.map V.int).map vI = n :: x
          rw [List.map_map]
          exact congrArg (n :: ·) (List.map_id x)
        refine ⟨by rw [List.map_cons, hk, i1], fun u hu => ?_⟩
        rcases List.mem_cons.mp hu with rfl | hu
        · rw [hk]
          refine ⟨⟨a, t, rfl, by simp, .of q, .of (by rw [qt, hw]; rfl)⟩, a, _, rfl, q, ?_⟩
          exact ⟨_, _, rfl, rfl, _, _, rfl, ⟨t, us, rfl, qt, by rw [hw]; exact intsRel x⟩, rfl⟩
        · exact i2 u hu
      · cases e
    · cases e
theorem sortPQ {G : GX} : CalQ G (relM G) (relL G) sortPG (rSortPI G.K) := by
  intro W σ μ0 H0 μ H st ds v Q x hs r p
  obtain ⟨a, vs, rfl, q, rs⟩ := r
  unfold sortPG at p
  split at p
  · rename_i L e
    obtain ⟨i1, i2⟩ := pairsOf_rel rs e
    refine ⟨a, vs, kP H, rfl, .of q, fun u hu => (i2 u hu).1, fun ys l pm so hl => ?_⟩
    have es : sortL L = ys.map (kP H) := sortL_eq ((sortL_perm L).trans (by rw [← i1]; exact (pm.map _).symm)) (sortL_sorted L) (List.pairwise_map.mpr (so.imp fun {x y} z => z))
    have rl : RelDs G μ H ((sortL L).map prD) ys := by
      rw [es]
      have hy : ∀ y ∈ ys, RelD G μ H (prD (kP H y)) y := fun y hy => (i2 y (pm.mem_iff.mp hy)).2
      clear es pm so p
      induction ys with
      | nil => rfl
      | cons y ys ih => exact .cons (hy y (by simp)) (ih fun z hz => hy z (List.mem_cons_of_mem _ hz))
    exact p μ _ _ (x.trans (.new hl)) (hs.new hl) ⟨l, _, rfl, Ext.back x .refl (hs.fresh hl) hl, hs.fresh hl, upd_same, RelDs.ext hs (.new hl) _ _ rl⟩
  · exact p.elim
theorem minPQ {G : GX} : CalQ G (relM G) (relD G) minPG (rMinPI G.K) := by
  intro W σ μ0 H0 μ H st ds v Q x hs r p
  obtain ⟨a, vs, rfl, q, rs⟩ := r
  unfold minPG at p
  split at p
  · rename_i L e
    obtain ⟨i1, i2⟩ := pairsOf_rel rs e
    split at p
    · rename_i l rl el
      have hlm : l ∈ L := (sortL_perm L).mem_iff.mp (by rw [el]; simp)
      refine ⟨a, vs, kP H, rfl, .of q, fun u hu => (i2 u hu).1, fun z => ?_, fun y hy hmin => ?_⟩
      · subst z
        rw [← i1] at hlm
        cases hlm
      · have hyL : kP H y ∈ L := by rw [← i1]; exact List.mem_map.mpr ⟨y, hy, rfl⟩
        have h1 : LeL l (kP H y) := by
          have so := sortL_sorted L
          rw [el] at so
          have hm : kP H y ∈ l :: rl := by rw [← el]; exact (sortL_perm L).mem_iff.mpr hyL
          rcases List.mem_cons.mp hm with e2 | e2
          · rw [e2]
            unfold LeL
            rw [← lt_lex]
            simp
          · exact (List.pairwise_cons.mp so).1 _ e2
        have h2 : LeL (kP H y) l := by
          rw [← i1] at hlm
          obtain ⟨z, hz, ez⟩ := List.mem_map.mp hlm
          rw [← ez]
          exact hmin z hz
        have e3 : l = kP H y := lexLt_total h1 h2
        rw [e3] at p
        exact p μ H _ x hs (i2 y hy).2
    · exact p.elim
  · exact p.elim
section
variable {X : Cx} {W : WX} {e : Expr} {fl : LF} {pos : Pos} {lv : Nat}
theorem al_sortedPI {p : Pos} (cx : Ctx X W lv) (hm : X.mg "sorted" = none) (ha : AM X W e fl) (hg : Gl X "sorted" := by rfl) (he : starEach [e] X.env = (false, eval e X.env) :: starEach [] X.env := by rfl) : AL X W (.Call (.Name "sorted" p) [e] [] pos) (lQ sortPG fl) :=
  p_callB (cr_sortPI (by have := Room.units65 cx.room; omega)) sortPQ hm (by decide +kernel) ha hg (he := he)
theorem ae_minPI {p : Pos} (cx : Ctx X W lv) (hm : X.mg "min" = none) (ha : AM X W e fl) (hg : Gl X "min" := by rfl) (he : starEach [e] X.env = (false, eval e X.env) :: starEach [] X.env := by rfl) : AE X W (.Call (.Name "min" p) [e] [] pos) (eQ minPG fl) :=
  p_callB (cr_minPI cx.calm (by have := Room.units65 cx.room; omega)) minPQ hm (by decide +kernel) ha hg (he := he)
end
end TK

set_option Elab.async false
set_option linter.all false
set_option maxRecDepth 100000
set_option maxHeartbeats 4000000
namespace TK
open PySem PySem.Spec
open PyProof.Rows hiding St
open L2
/-! # sorted(set(a list of ints)) -/
/-- a set as it is born -/
def bornS (w : World) : Obj := { cls := .type "set", dict := none, data := .set #[] 0 (.fresh 0 0 (!w.params.followText "set-order")) }
section
variable {P : Program} {w : World} {A : Around} {E : Value → Shared → Prop}
/-- what stands behind filling a born set from a list -/
def FillS (w : World) (S : Addr) (ns : List Int) (s s' : Shared) : Prop := ∃ (hp : Heap) (tk c : Nat), s' = { s with heap := hp, toks := tk } ∧ SetR w hp S (fun j => decide (j ∈ ns)) c ∧ c ≤ ns.length ∧ ∀ b o, b ≠ S → s.heap.get? b = some o → hp.get? b = some o
theorem born_init {s : Shared} {S l : Addr} {items : Array Value} {ns : List Int} (cool : A.handled = none) (atS : s.heap.get? S = some (bornS w)) (atl : s.heap.IsList l items) (away : l ≠ S) (are : IntsAre items.toList ns) (few : ns.length + 1 < scanBound) :
    codeAny (model P w) A (.call (.builtin "set.__init__") ⟨[.ref S, .ref l], []⟩) (wants (fun r s' => r = .none ∧ FillS w S ns s s') E) s := by
  have kind : s.TypeIs (.ref S) "set" := ⟨_, atS, rfl⟩
  have many : items.size = ns.length := by rw [← Array.length_toList]; exact IntsAre.length are
  refine codeAny_call_builtin F.called_set.init.plain F.entry_set_init (check_set_init_1 kind ?_)
  obtain ⟨⟨lc, ld, lo, lk⟩, l1, l2, m, l3⟩ := id atl
  dsimp only at l2 l3
  subst l2 l3
  have n1 := F.sub_list_set
  have n2 := F.sub_list_frozenset
  have n3 : (Value.type "list" == Value.type "dict") = false := by decide
  unfold Builtin.«set.__init__»
  unfold noKeywords Builtin.Frozenset.updateFrom
  generalize eit : pyIter = it
  wp_walk
  subst eit
  have below : l < s.heap.objs.size := Heap.lt_size l1
  have belowS : S < s.heap.objs.size := Heap.lt_size atS
  refine wpAny_pyIter_list (s := { heap := s.heap, gens := s.gens, drawn := s.drawn, toks := s.toks, os := s.os }) atl ?_
  apply wpAny_bind
  refine wpAny_runValue ?_
  have items_are : ∀ (i : Nat) (v : Value), items[i]? = some v → ∃ k t, ns[i]? = some k ∧ v = .int k t := fun i v e => by
    have lt : i < ns.length := many ▸ (Array.getElem?_eq_some_iff.mp e).1
    obtain ⟨t, z⟩ := PyProof.Rows.IntsAre.int_at are i v (by rw [Array.getElem?_toList, e])
    exact ⟨ns[i], t, List.getElem?_eq_getElem lt, by rw [z, List.getD_eq_getElem?_getD, List.getElem?_eq_getElem lt]; rfl⟩
  have out : S ∉ [s.heap.objs.size, l] := by
    intro z
    rcases List.mem_cons.mp z with e | z
    · exact Nat.lt_irrefl _ (e ▸ belowS)
    · exact away (List.mem_singleton.mp z).symm
  refine set_update_ints ((Walks.list (show A.in1.in1.handled = none by simp [cool]) s.heap.objs.size l (Nat.ne_of_lt below) items).toS) S out ns many few items_are items.size 0 _ (Nat.sub_zero _) (Nat.zero_le _) ⟨⟨_, Heap.get?_push_size _ rfl, rfl, rfl⟩, atl.push _⟩ ⟨0, Nat.le_refl 0, setR_new_at (Heap.get?_push_of_some _ atS)⟩ ?_
  intro s' c mv cn R
  refine wpAny_pure (wpAny_pure ⟨rfl, s'.heap, s'.toks, c, ?_, R, many ▸ cn, fun b o off e => ?_⟩)
  · have q1 : s'.gens = s.gens := mv.gens
    have q2 : s'.drawn = s.drawn := mv.drawn
    have q3 : s'.os = s.os := mv.os
    cases s'
    dsimp only at q1 q2 q3
    rw [q1, q2, q3]
  · refine mv.heap b o (fun z => ?_) (Heap.get?_push_of_some _ e)
    rcases List.mem_cons.mp z with zl | z
    · exact off zl
    · exact Nat.lt_irrefl _ (List.mem_singleton.mp z ▸ Heap.lt_size e)
theorem call_setL {s : Shared} {l : Addr} {items : Array Value} {ns : List Int} {Q : Value → Shared → Prop} (cool : A.handled = none) (atl : s.heap.IsList l items) (are : IntsAre items.toList ns) (few : ns.length + 1 < scanBound)
    (h : ∀ (hp : Heap) (tk c : Nat), SetR w hp s.heap.objs.size (fun j => decide (j ∈ ns)) c → c ≤ ns.length → (∀ b o, s.heap.get? b = some o → hp.get? b = some o) → Q (.ref s.heap.objs.size) { s with heap := hp, toks := tk }) :
      wpAny (model P w) A (call (.type "set") [Value.ref l]) Q E s := by
  have F1 := F.called_set
  obtain ⟨_, _, line⟩ := F1.mro
  have ⟨f1, f2, f3, f4⟩ := (⟨F1.made, F1.sub, F1.notType, F1.canCreate⟩ : _ ∧ _ ∧ _ ∧ _)
  have f5 := F.typeCall_set_1 (.ref l)
  refine wpAny_call (codeAny_of_tree (wpAny_pure ⟨Code.quiet_builtin _ (by decide +kernel), codeAny_builtin F.entry_type_call ?_⟩))
  rw [Around.under_plain (weight_type_call_type _ [.ref l] []) rfl]
  repeat (any_goals first | assumption | wp_step)
  refine codeAny_mono (code_set_led1 (E := E) (.ref l) (Q₁ := fun v s1 => v = .ref s.heap.objs.size ∧ s1 = { s with heap := s.heap.push (bornS w) }) ⟨rfl, rfl⟩) fun r s1 hr => ?_
  match r, hr with
  | .error _, hr => exact hr
  | .ok (.ret v), hr =>
    obtain ⟨ev, es⟩ := hr
    subst ev es
    have g1 : (s.heap.push (bornS w)).get? s.heap.objs.size = some (bornS w) := Heap.get?_push_size _ rfl
    have kind : Shared.TypeIs { s with heap := s.heap.push (bornS w) } (.ref s.heap.objs.size) "set" := ⟨_, g1, rfl⟩
    have look := F1.init.lookup
    have bind := F1.init.bind (.ref s.heap.objs.size)
    have below : l < s.heap.objs.size := by
      obtain ⟨o, e, _⟩ := atl
      exact Heap.lt_size e
    repeat (any_goals first | assumption | wp_step)
    refine codeAny_mono (born_init (E := E) (s := { s with heap := s.heap.push (bornS w) }) (by simp [cool]) g1 (atl.push _) (Nat.ne_of_lt below) are few) fun r2 s2 hr2 => ?_
    match r2, hr2 with
    | .error _, hr2 => exact hr2
    | .ok (.ret v), hr2 =>
      obtain ⟨ev, hp, tk, c, es, R, le, keep⟩ := hr2
      subst ev es
      refine wpAny_pure ?_
      repeat (any_goals first | assumption | wp_step)
      exact h hp tk c R le fun b o e => keep b o (Nat.ne_of_lt (Heap.lt_size e)) (Heap.get?_push_of_some _ e)
end
/-! ## numbers ascending, each once -/
def insA (x : Int) : List Int → List Int
  | [] => [x]
  | y :: ys => if x < y then x :: y :: ys else if x = y then y :: ys else y :: insA x ys
def ascL (xs : List Int) : List Int := xs.foldr insA []
theorem insA_mem {x k : Int} : ∀ {ys : List Int}, k ∈ insA x ys ↔ k = x ∨ k ∈ ys
  | [] => by simp [insA]
  | y :: ys => by
    unfold insA
    split
    · simp
    · split
      · rename_i e
        subst e
        simp
      · rw [List.mem_cons, insA_mem, List.mem_cons]
        constructor
        · rintro (h | h | h)
          · exact .inr (.inl h)
          · exact .inl h
          · exact .inr (.inr h)
        · rintro (h | h | h)
          · exact .inr (.inl h)
          · exact .inl h
          · exact .inr (.inr h)
theorem insA_pw {x : Int} : ∀ {ys : List Int}, ys.Pairwise (· < ·) → (insA x ys).Pairwise (· < ·)
  | [], _ => by simp [insA]
  | y :: ys, h => by
    obtain ⟨low, rest⟩ := List.pairwise_cons.mp h
    unfold insA
    split
    · rename_i c
      refine List.pairwise_cons.mpr ⟨fun z hz => ?_, h⟩
      rcases List.mem_cons.mp hz with same | hz
      · rw [same]; exact c
      · exact Int.lt_trans c (low z hz)
    · split
      · exact h
      · rename_i c1 c2
        refine List.pairwise_cons.mpr ⟨fun z hz => ?_, insA_pw rest⟩
        rcases insA_mem.mp hz with e | hz
        · rw [e]; omega
        · exact low z hz
theorem ascL_mem {k : Int} : ∀ {xs : List Int}, k ∈ ascL xs ↔ k ∈ xs
  | [] => by simp [ascL]
  | x :: xs => by
    show k ∈ insA x (ascL xs) ↔ _
    rw [insA_mem, ascL_mem, List.mem_cons]
theorem ascL_pw : ∀ xs : List Int, (ascL xs).Pairwise (· < ·)
  | [] => .nil
  | x :: xs => insA_pw (ascL_pw xs)
theorem asc_uniq : ∀ {x y : List Int}, x.Pairwise (· < ·) → y.Pairwise (· < ·) → (∀ k, k ∈ x ↔ k ∈ y) → x = y
  | [], [], _, _, _ => rfl
  | [], b :: y, _, _, e => absurd ((e b).mpr (by simp)) (by simp)
  | a :: x, [], _, _, e => absurd ((e a).mp (by simp)) (by simp)
  | a :: x, b :: y, hx, hy, e => by
    obtain ⟨x1, x2⟩ := List.pairwise_cons.mp hx
    obtain ⟨y1, y2⟩ := List.pairwise_cons.mp hy
    have ab : a = b := by
      rcases List.mem_cons.mp ((e a).mp (by simp)) with h | h
      · exact h
      · rcases List.mem_cons.mp ((e b).mpr (by simp)) with h' | h'
        · exact h'.symm
        · have := y1 a h
          have := x1 b h'
          omega
    subst ab
    rw [asc_uniq x2 y2 fun k => ?_]
    constructor
    · intro h
      rcases List.mem_cons.mp ((e k).mp (List.mem_cons_of_mem _ h)) with z | z
      · have := x1 k h
        omega
      · exact z
    · intro h
      rcases List.mem_cons.mp ((e k).mpr (List.mem_cons_of_mem _ h)) with z | z
      · have := y1 k h
        omega
      · exact z
theorem nd_len {x y : List Int} (hx : x.Nodup) (hy : y.Nodup) (e : ∀ k, k ∈ x ↔ k ∈ y) : x.length = y.length :=
  ((List.perm_ext_iff_of_nodup hx hy).mpr e).length_eq
theorem pw_nd {x : List Int} (h : x.Pairwise (· < ·)) : x.Nodup := h.imp fun {a b} z e => by omega
/-! ## the rules -/
section
variable {X : Cx}
def rSetL (K : PySem.W.Frag) (w : World) : List V → Hp → VK → Prop := fun vs H Q => ∃ (a : Addr) (ns : List Int), vs = [V.ref a] ∧ SqL K H a (ns.map V.int) ∧ ns.length + 1 < scanBound ∧ ∀ p, H p = none → Q (.ref p) (upd H p (SetO w p (fun j => decide (j ∈ ns)) (ascL ns).length))
theorem cr_setL (hc : X.calm = true) : CallR X (.type "set") (rSetL X.K X.w) := by
  intro pins s σ H vs us Q I r hh
  obtain ⟨a, ns, rfl, hs, few, q⟩ := hh
  obtain ⟨its, rv, at_, _⟩ := I.list hs
  rw [Vals.ref1 r]
  refine call_setL (I.ok.hd hc) at_.isList (by simpa using rv.ints) few fun hp tk c R le keep => ?_
  have fresh : H s.heap.objs.size = none := I.hok.fresh (Nat.le_refl _)
  have cn : c = (ascL ns).length := by
    obtain ⟨o, es, ep, t, ho, hex, hdt, g, nd, hm2, hb, hf, hn, hr, hl2⟩ := id R
    rw [← hn, ← Array.length_toList, ← List.length_map (f := keyOf)]
    refine nd_len nd (pw_nd (ascL_pw ns)) fun k => ?_
    rw [ascL_mem, ← hm2 k, decide_eq_true_iff]
  rw [cn] at R
  exact ⟨.ref _, _, I.laid (t' := tk) keep (Nat.le_refl _) (setO_new R), rfl, q _ fresh⟩
end
def sortSetG (ds : List D) (st : Store) : R (List D) := match intsOf ds with
  | some xs => if xs.length ≤ 4000 ∧ (ascL xs).length < 64 then .ok ((ascL xs).map D.int) st else .bad
  | none => .bad
section
variable {X : Cx} {W : WX} {e : Expr} {fl : LF} {pos : Pos} {lv : Nat}
theorem al_sortSet {p p2 q : Pos} (cx : Ctx X W lv) (hm : X.mg "sorted" = none) (hm2 : X.mg "set" = none) (ha : AM X W e fl) (hg : Gl X "sorted" := by rfl) (hg2 : Gl X "set" := by rfl) (he : starEach [e] X.env = (false, eval e X.env) :: starEach [] X.env := by rfl) : AL X W (.Call (.Name "sorted" p) [.Call (.Name "set" p2) [e] [] q] [] pos) (lQ sortSetG fl) :=
  (pe_callB (cr_sortedSet cx.calm) hg hm (by decide +kernel) (pa_cons (pe_callTy (cr_setL cx.calm) hg2 hm2 (by decide +kernel) (pa_cons ha pa_nil he) (he := he)) pa_nil)).weak fun σ H Q ⟨μ, env, st, hs, er, q0⟩ =>
    ⟨μ, env, st, hs, er, Post.bind0 q0 fun ds st1 μ1 H1 v _ x1 hs1 r1 p1 => by
      obtain ⟨a, vs, rfl, q, rs⟩ := r1
      unfold sortSetG at p1
      split at p1
      · rename_i xs ex
        split at p1
        · rename_i c
          have hv := intsOf_ok rs ex
          have few : xs.length + 1 < scanBound := by
            have := c.1
            unfold scanBound
            omega
          subst hv
          refine ⟨a, xs, rfl, .of q, few, fun b hb => ⟨b, _, _, rfl, upd_same, c.2, fun ns l so mem len hl => ?_⟩⟩
          have en : ns = ascL xs := asc_uniq so (ascL_pw xs) fun k => by rw [mem k, ascL_mem, decide_eq_true_iff]
          rw [en]
          have x2 := x1.trans (Ext.new (o := SetO X.w b (fun j => decide (j ∈ xs)) (ascL xs).length) hb)
          have hs2 := hs1.new (o := SetO X.w b (fun j => decide (j ∈ xs)) (ascL xs).length) hb
          exact p1 μ1 _ _ (x2.trans (.new hl)) (hs2.new hl) ⟨l, _, rfl, Ext.back x2 .refl (hs2.fresh hl) hl, hs2.fresh hl, upd_same, intsRel _⟩
        · exact p1.elim
      · exact p1.elim⟩
end
@[simp] theorem sortSetG_ints (xs : List Int) (st : Store) : sortSetG (xs.map D.int) st = okIf (xs.length ≤ 4000 ∧ (ascL xs).length < 64) (.ok ((ascL xs).map D.int) st) := by
  unfold sortSetG
  have e := intsOf_map (fun x : Int => x) xs
  rw [List.map_id'] at e
  rw [e]
  simp only [ite_okIf]
end TK

set_option Elab.async false
set_option linter.all false
set_option maxRecDepth 100000
set_option maxHeartbeats 4000000
namespace TK
open PySem PySem.Spec
open PyProof.Rows hiding St
open L2
/-! # zip of a list or a tuple and a tuple -/
def mixT : R (List D) → Bool
  | .ok [.ref _, .tup _] _ => true
  | _ => false
def iZipB (fr : LF) : IF := fun env st => if mixT (fr env st) then iZipM fr env st else iZipA fr env st
@[simp] theorem iZipB_ap (fr : LF) (env : AEnv) (st : Store) : iZipB fr env st = ((fr env st).bind fun ds st1 => match ds with
  | [.tup xs, .tup ys] => .ok (zipD xs ys, []) st1
  | [.ref n, .ref m] => (match seqOf (.ref n) st1, seqOf (.ref m) st1 with
    | some xs, some ys => .ok (zipD xs ys, [(n, xs), (m, ys)]) st1
    | _, _ => .bad)
  | [.ref n, .tup ys] => (match seqOf (.ref n) st1 with
    | some xs => .ok (zipD xs ys, [(n, xs)]) st1
    | none => .bad)
  | _ => .bad) := by
  unfold iZipB
  rw [iZipM_ap, iZipA_ap]
  cases fr env st with
  | ok ds st1 =>
    match ds with
    | [] => rfl
    | [x] => cases x <;> rfl
    | [x, y] => cases x <;> cases y <;> rfl
    | x :: y :: z :: r => cases x <;> cases y <;> rfl
  | _ => rfl
section
variable {X : Cx} {W : WX} {a b : Expr} {fr : LF} {pos : Pos}
theorem ai_zipB {tpos p : Pos} {elts : List Expr} {kk : Nat} (hm : X.mg "zip" = none) (ha : AA X W [a, b] fr) (hg : Gl X "zip" := by rfl) (hs1 : starEach [a, b] X.env = (false, eval a X.env) :: starEach [b] X.env := by rfl)
    (hpl : (backTo pos (starEach [b] X.env)).any (·.1) = false := by rfl) : AI X W (.Tuple elts kk tpos) (.Call (.Name "zip" p) [a, b] [] pos) (iZipB fr) := by
  refine ⟨fun pins s σ H R I ⟨μ, env, st, hs, er, q⟩ => ?_⟩
  unfold iZipB at q
  split at q
  · exact (ai_zipM hm ha hg hs1 hpl).run pins s σ H R I ⟨μ, env, st, hs, er, q⟩
  · exact (ai_zip hm ha hg hs1 hpl).run pins s σ H R I ⟨μ, env, st, hs, er, q⟩
end
end TK

set_option Elab.async false
set_option linter.all false
set_option maxRecDepth 100000
set_option maxHeartbeats 4000000
namespace TK
open PySem PySem.Spec
open PyProof.Rows hiding St
open L2
/-! # try: .. except X as e: facts for the head; the flags told twice or never -/
section
variable {X Y : Cx} {W : WX} {pos : Pos} {i kf kt : Nat} {a : Addr} {bs : List Bool} {w w0 : Str}
theorem su_B0 {S1 S2 S3b : Stmt} {c : Expr} {T4 : TS} (hik : i ≠ kf) (hit : i ≠ kt) (hkt : kf ≠ kt)
    (h1 : PS Y S1 (fun D σ H => σ[i]? = some (some (.ref a)) ∧ ∀ q, H q = none → D.nx (σ.set kf (some (.ref q))) (upd H q (.lst (bs.map V.bl)))))
    (h2 : PS Y S2 (fun D σ H => D.nx (σ.set kt (some (.str w0))) H))
    (h3 : PT Y c (fun σ H Q => σ[i]? = some (some (.ref a)) ∧ ∃ (q : Addr) (bs : List Bool), σ[kf]? = some (some (.ref q)) ∧ H q = some (.lst (bs.map V.bl)) ∧ Q (decide (bs.count true = 1)) H))
    (h4 : PS Y S3b T4) (hb : bs.count true ≠ 1) :
    PSs Y [S1, S2, .If c [S3b] [] pos] (tSuW i kf kt a w0) :=
  (pss_cons h1 (pss_cons h2 (pss_one (ps_if h3 (pss_one h4) pss_nil)))).weak fun D σ H ⟨hc, ⟨hl1, hl2⟩, h⟩ => by
    refine ⟨hc, fun q hq => ?_⟩
    have up : ∀ b o, H b = some o → upd H q (.lst (bs.map V.bl)) b = some o := fun b o hb => by rw [upd_ne fun e => by rw [e, hq] at hb; cases hb]; exact hb
    have e1 : ((σ.set kf (some (.ref q))).set kt (some (.str w0)))[i]? = some (some (.ref a)) := by rw [List.getElem?_set_ne (Ne.symm hit), List.getElem?_set_ne (Ne.symm hik)]; exact hc
    have e2 : ((σ.set kf (some (.ref q))).set kt (some (.str w0)))[kf]? = some (some (.ref q)) := by rw [List.getElem?_set_ne (Ne.symm hkt), List.getElem?_set_self hl1]
    refine ⟨e1, q, bs, e2, upd_same, ?_⟩
    rw [decide_eq_false hb]
    exact h (.ref q) _ up
end
theorem exF_of {K : PySem.W.Frag} {h : Heap} {mg : Str → Option Value} {y c : Str} {b : Bool} (X : K.In h) (N : h.Ns mainGlobals mg) {D A : Addr} (aD : PySem.W.nsIn K mainGlobals y = some (some (.ref D))) (aA : PySem.W.nsIn K mainGlobals c = some (some (.ref A)))
    (C : ExcC K D) (k : PySem.W.kitOne K (.ref D) (.ref A) = some b) : ExF ⟨K, mg⟩ y c b := ⟨fun D' hD' => by
  have e := (PySem.W.mg_of X N aD).symm.trans hD'
  cases e
  exact ⟨C, A, PySem.W.mg_of X N aA, k⟩⟩
theorem exV_of {K : PySem.W.Frag} {h : Heap} {mg : Str → Option Value} {y : Str} (X : K.In h) (N : h.Ns mainGlobals mg) {D : Addr} (aD : PySem.W.nsIn K mainGlobals y = some (some (.ref D)))
    (C : ExcC K D) (k : PySem.W.kitOne K (.ref D) (.type "ValueError") = some true) : ExV ⟨K, mg⟩ y := ⟨fun D' hD' => by
  have e := (PySem.W.mg_of X N aD).symm.trans hD'
  cases e
  exact ⟨C, k⟩⟩
def TryCW (G : GX) (c : Value) (cat : List (Str × Option Str)) : Prop := ∀ (y : Str) (o : Option Str), cat.lookup y = some o → ∀ C, G.mg y = some C → PySem.W.exmOne G.K C c = some o.isSome
theorem tryCW_nil {G : GX} {c : Value} : TryCW G c [] := fun _ _ h => by cases h
theorem tryCW_cons {G : GX} {c C : Value} {y : Str} {o : Option Str} {cat : List (Str × Option Str)} (hy : G.mg y = some C) (e : PySem.W.exmOne G.K C c = some o.isSome) (t : TryCW G c cat) : TryCW G c ((y, o) :: cat) := fun z b' h C' hC' => by
  rw [List.lookup_cons] at h
  split at h
  · rename_i hz
    have hz : z = y := by simpa using hz
    cases h
    subst hz
    rw [hy] at hC'
    cases hC'
    exact e
  · exact t z b' h C' hC'
theorem tryWF_of {G : GX} {x : Str} {c : Value} {cat : List (Str × Option Str)} (h : G.mg x = some c) (t : TryCW G c cat) : TryWF G x cat := ⟨c, h, t⟩
theorem sTryW_ap (i kf kt : Nat) (cat : List (Str × Option Str)) (fb : SF) (env : AEnv) (st : Store) : sTryW i kf kt cat fb env st = match fb env st with
  | .exc env' x st' => (match cat.lookup x.cls with
    | some (some w) => if x.fs = [] ∧ i ≠ kt ∧ kf ≠ kt ∧ kf < env'.length ∧ kt < env'.length ∧ i < env'.length then .next (((env'.set i none).set kf none).set kt (some (.str w))) st' else .bad
    | some none => .exc env' x st'
    | none => .bad)
  | r => r := rfl
end TK

set_option Elab.async false
set_option linter.all false
set_option maxRecDepth 100000
set_option maxHeartbeats 4000000
namespace TK
open PySem PySem.Spec
open PyProof.Rows hiding St
open L2
/-! # a list held by a name, times an int -/
section
variable {X : Cx} {W : WX} {a b : Expr} {fa fe : EF} {pos : Pos}
def lRepE (fa fe : EF) : LF := fun env st => (fa env st).bind fun x st1 => (fe env st1).bind fun d st2 => match x, d with
  | .ref n, .int k => (match st2[n]? with
    | some (.lst xs) => if -1000000 ≤ k ∧ k ≤ 1000000 ∧ xs.length * k.toNat ≤ sizeLine then .ok (List.replicate k.toNat xs).flatten st2 else .bad
    | _ => .bad)
  | _, _ => .bad
theorem al_repE (ha : AE X W a fa) (hb : AE X W b fe) : AL X W (.BinOp a .Mult b pos) (lRepE fa fe) := (pe_op op_rep ha hb).weak fun σ H Q ⟨μ, env, st, hs, er, p⟩ =>
  ⟨μ, env, st, hs, er, Post.bind0 p fun x st1 μ1 H1 v _ x1 hs1 r1 p1 => ⟨μ1, env, st1, hs1, er.ext hs x1, by
    cases q : fe env st1 with
    | bad => rw [q] at p1; exact p1
    | exc x s => rw [q] at p1; exact (Post.later (rel := relL (gx X)) (r := .exc x s) (Q := Q) p1 x1)
    | ok d st2 =>
      rw [q, R.bind_ok] at p1
      intro μ2 H2 u x2 hs2 r2
      have r1 := RelD.ext hs1 x2 _ _ r1
      split at p1
      · rename_i n k hr1 hr2
        obtain ⟨a, e1, rfl⟩ := r1
        cases r2
        split at p1
        · rename_i xs e2
          obtain ⟨_, h1, vs, rfl, rv⟩ := hs2.obj _ a _ e1 e2
          split at p1
          · rename_i hz
            have h63 : (2 : Int) ^ 63 = 9223372036854775808 := by decide
            exact ⟨a, k, vs, rfl, rfl, h1, by rw [h63]; omega, by rw [h63]; omega, by rw [rv.length]; exact hz.2.2, fun l hl => p1 μ2 _ _ ((x1.trans x2).trans (.new hl)) (hs2.new hl)
              ⟨l, _, rfl, Ext.back (x1.trans x2) .refl (hs2.fresh hl) hl, hs2.fresh hl, upd_same, RelDs.ext hs2 (.new hl) _ _ (rv.rep _)⟩⟩
          · exact p1.elim
        · exact p1.elim
      · exact p1.elim⟩⟩
end
theorem lRepE_ap (fa fe : EF) (env : AEnv) (st : Store) : lRepE fa fe env st = ((fa env st).bind fun x st1 => (fe env st1).bind fun d st2 => match x, d with
  | .ref n, .int k => (match st2[n]? with
    | some (.lst xs) => if -1000000 ≤ k ∧ k ≤ 1000000 ∧ xs.length * k.toNat ≤ sizeLine then .ok (List.replicate k.toNat xs).flatten st2 else .bad
    | _ => .bad)
  | _, _ => .bad) := rfl
end TK

set_option Elab.async false
set_option linter.all false
set_option maxRecDepth 100000
set_option maxHeartbeats 4000000
namespace TK
open PySem PySem.Spec
open PyProof.Rows hiding St
open L2
/-! # name *= int -/
section
variable {X : Cx} {W : WX} {lv : Nat} {e : Expr} {fe : EF} {pos : Pos}
theorem ip_mul : PIp X .Mult (fun x y H Q => ∃ i j, x = .int i ∧ y = .int j ∧ CMulW i j ∧ Q (.int (i * j)) H) := by
  intro pins s σ H x y v u Q I r1 r2 h
  obtain ⟨i, j, e1, e2, hc, q⟩ := h
  subst e1; subst e2
  obtain ⟨t, rfl⟩ := r1
  obtain ⟨t', rfl⟩ := r2
  exact imul_int ⟨.int _, H, I.tok _, ⟨_, rfl⟩, q⟩ hc.ok
theorem as_augMul (c : Ctx X W lv) (i : Nat) {x : Str} {pos' : Pos} (he : AE X W e fe) (hi : X.N[i]? = some x := by rfl) (hx : Loc X.env.scope x := by first | exact Or.inl rfl | exact Or.inr rfl) (hf : X.fn x = true ∨ X.env.scope.names.lookup x = some .local := by first | exact .inl rfl | exact .inr rfl) :
    AS X W (.AugAssign (.Name x pos') .Mult e pos) (sAug i (· * ·) mulOk fe) := as_augI c i he ip_mul (fun x y H Q h q => ⟨x, y, rfl, rfl, h, q⟩) hi hx hf
end
end TK

set_option Elab.async false
set_option linter.all false
set_option maxRecDepth 100000
set_option maxHeartbeats 4000000
namespace TK
/-! # borders and sheets: the plain law -/
def ris (most : Int) : Int → List Int → Prop
  | _, [] => True
  | lo, x :: xs => lo ≤ x ∧ x ≤ most ∧ ris most x xs
theorem ris_of {m : Int} : ∀ {lo : Int} {xs : List Int}, xs.Pairwise (· ≤ ·) → (∀ x ∈ xs, lo ≤ x ∧ x ≤ m) → ris m lo xs
  | _, [], _, _ => trivial
  | lo, x :: xs, hp, hb => by
    rw [List.pairwise_cons] at hp
    exact ⟨(hb x (by simp)).1, (hb x (by simp)).2, ris_of hp.2 fun y hy => ⟨hp.1 y hy, (hb y (by simp [hy])).2⟩⟩
theorem ris_all {m : Int} : ∀ {lo : Int} {xs : List Int}, ris m lo xs → xs.Pairwise (· ≤ ·) ∧ ∀ x ∈ xs, lo ≤ x ∧ x ≤ m
  | _, [], _ => by simp
  | lo, x :: xs, ⟨h1, h2, h3⟩ => by
    obtain ⟨h4, h5⟩ := ris_all h3
    refine ⟨List.pairwise_cons.mpr ⟨fun y hy => (h5 y hy).1, h4⟩, fun y hy => ?_⟩
    rcases List.mem_cons.mp hy with rfl | hy
    · exact ⟨h1, h2⟩
    · have := h5 y hy
      exact ⟨by omega, this.2⟩
/-- how many stand below b -/
def below (xs : List Int) (b : Int) : Nat := (xs.filter fun x => decide (x < b)).length
def cutsOf (xs : List Int) : List Int := (List.range (xs.length + 1)).map fun (b : Nat) => (below xs b : Int)
theorem below_cons (x : Int) (xs : List Int) (b : Int) : below (x :: xs) b = (if x < b then 1 else 0) + below xs b := by
  unfold below
  by_cases h : x < b <;> simp [List.filter_cons, h] <;> omega
theorem below_app (xs ys : List Int) (b : Int) : below (xs ++ ys) b = below xs b + below ys b := by
  simp [below]
theorem below_zero {xs : List Int} {b : Int} (h : ∀ x ∈ xs, b ≤ x) : below xs b = 0 := by
  unfold below
  rw [List.length_eq_zero_iff, List.filter_eq_nil_iff]
  intro x hx
  have := h x hx
  simp; omega
theorem below_all {xs : List Int} {b : Int} (h : ∀ x ∈ xs, x < b) : below xs b = xs.length := by
  unfold below
  rw [List.filter_eq_self.mpr]
  intro x hx
  simp [h x hx]
theorem below_le (xs : List Int) (b : Int) : below xs b ≤ xs.length := List.length_filter_le _ _
theorem below_mono : ∀ (xs : List Int) {b c : Int}, b ≤ c → below xs b ≤ below xs c
  | [], _, _, _ => by simp [below]
  | x :: xs, b, c, h => by
    have := below_mono xs h
    rw [below_cons, below_cons]
    by_cases h1 : x < b
    · rw [if_pos h1, if_pos (by omega)]; omega
    · rw [if_neg h1]; split <;> omega
theorem below_lt : ∀ {xs : List Int}, xs.Pairwise (· ≤ ·) → ∀ {i : Nat} {x b : Int}, xs[i]? = some x → (x < b ↔ i < below xs b)
  | [], _, i, x, b, h => by simp at h
  | y :: ys, hp, i, x, b, h => by
    rw [List.pairwise_cons] at hp
    rw [below_cons]
    cases i with
    | zero =>
      have e : y = x := by simpa using h
      subst e
      by_cases hy : y < b
      · simp [hy]; omega
      · have := below_zero (xs := ys) (b := b) fun z hz => by have := hp.1 z hz; omega
        simp [hy, this]
    | succ i =>
      have h' : ys[i]? = some x := by simpa using h
      have hm : x ∈ ys := List.mem_of_getElem? h'
      have ih := below_lt hp.2 (b := b) h'
      by_cases hy : y < b
      · rw [if_pos hy, ih]; omega
      · have := below_zero (xs := ys) (b := b) fun z hz => by have := hp.1 z hz; omega
        have hx := hp.1 x hm
        rw [if_neg hy, this]
        constructor
        · intro z; omega
        · intro z; omega
structure Cuts (cs : List Int) (n : Nat) : Prop where
  len : cs.length = n + 1
  zero : cs.getD 0 0 = 0
  last : cs.getD n 0 = n
  up : ∀ e, e < n → cs.getD e 0 ≤ cs.getD (e + 1) 0
theorem cutsOf_get {xs : List Int} {e : Nat} (h : e ≤ xs.length) : (cutsOf xs).getD e 0 = below xs e := by
  unfold cutsOf
  rw [List.getD_eq_getElem?_getD, List.getElem?_map, List.getElem?_range (by omega)]
  rfl
theorem cutsOf_cuts {xs : List Int} (hr : ris ((xs.length : Int) - 1) 0 xs) : Cuts (cutsOf xs) xs.length := by
  obtain ⟨_, h2⟩ := ris_all hr
  refine ⟨by simp [cutsOf], ?_, ?_, fun e he => ?_⟩
  · rw [cutsOf_get (Nat.zero_le _), below_zero]
    · rfl
    · intro x hx; exact (h2 x hx).1
  · rw [cutsOf_get (Nat.le_refl _), below_all]
    intro x hx
    have := (h2 x hx).2
    omega
  · rw [cutsOf_get (by omega), cutsOf_get (by omega)]
    have := below_mono xs (b := (e : Int)) (c := ((e + 1 : Nat) : Int)) (by omega)
    omega
def pre (cs : List Int) : Nat → List Int
  | 0 => []
  | e + 1 => pre cs e ++ List.replicate (cs.getD (e + 1) 0 - cs.getD e 0).toNat (e : Int)
theorem pre_len {cs : List Int} {n : Nat} (h : Cuts cs n) : ∀ {i : Nat}, i ≤ n → ((pre cs i).length : Int) = cs.getD i 0
  | 0, _ => by rw [h.zero]; rfl
  | i + 1, hi => by
    have ih := pre_len h (i := i) (by omega)
    have := h.up i (by omega)
    simp only [pre, List.length_append, List.length_replicate]
    omega
theorem pre_mem {cs : List Int} : ∀ {i : Nat} {x : Int}, x ∈ pre cs i → 0 ≤ x ∧ x < i
  | 0, x, h => by simp [pre] at h
  | i + 1, x, h => by
    rw [pre, List.mem_append] at h
    rcases h with h | h
    · have := pre_mem h; omega
    · have := (List.mem_replicate.mp h).2; omega
theorem pre_pair {cs : List Int} : ∀ i : Nat, (pre cs i).Pairwise (· ≤ ·)
  | 0 => by simp [pre]
  | i + 1 => by
    rw [pre, List.pairwise_append]
    refine ⟨pre_pair i, ?_, fun x hx y hy => ?_⟩
    · rw [List.pairwise_replicate]; right; omega
    · have := (List.mem_replicate.mp hy).2
      have := (pre_mem hx).2
      omega
theorem pre_below {cs : List Int} {b : Nat} : ∀ {i : Nat}, b ≤ i → below (pre cs i) b = (pre cs b).length
  | 0, h => by
    obtain rfl : b = 0 := by omega
    simp [pre, below]
  | i + 1, h => by
    by_cases e : b = i + 1
    · subst e
      exact below_all fun x hx => (pre_mem hx).2
    · have ih := pre_below (cs := cs) (b := b) (i := i) (by omega)
      rw [pre, below_app, ih, below_zero (xs := List.replicate _ _)]
      · rfl
      · intro x hx
        have := (List.mem_replicate.mp hx).2
        omega
theorem pre_ris {cs : List Int} {n : Nat} (h : Cuts cs n) : ris ((n : Int) - 1) 0 (pre cs n) :=
  ris_of (pre_pair n) fun x hx => by have := pre_mem hx; omega
theorem pre_length {cs : List Int} {n : Nat} (h : Cuts cs n) : (pre cs n).length = n := by
  have := pre_len h (Nat.le_refl n)
  rw [h.last] at this
  omega
theorem cutsOf_pre {cs : List Int} {n : Nat} (h : Cuts cs n) : cutsOf (pre cs n) = cs := by
  apply List.ext_getElem?
  intro i
  unfold cutsOf
  rw [pre_length h, List.getElem?_map]
  by_cases hi : i < n + 1
  · rw [List.getElem?_range hi, List.getElem?_eq_getElem (by rw [h.len]; exact hi)]
    have h1 := pre_below (cs := cs) (b := i) (i := n) (by omega)
    have h2 := pre_len h (i := i) (by omega)
    rw [List.getD_eq_getElem?_getD, List.getElem?_eq_getElem (by rw [h.len]; exact hi)] at h2
    simp only [Option.map_some, Option.some.injEq]
    rw [h1, h2]
    rfl
  · rw [List.getElem?_eq_none (by simp; omega), List.getElem?_eq_none (by rw [h.len]; omega)]
    rfl
theorem pre_cutsOf {xs : List Int} (hr : ris ((xs.length : Int) - 1) 0 xs) : pre (cutsOf xs) xs.length = xs := by
  obtain ⟨hp, hb⟩ := ris_all hr
  have key : ∀ i, i ≤ xs.length → pre (cutsOf xs) i = xs.take (below xs i) := by
    intro i
    induction i with
    | zero =>
      intro _
      rw [below_zero]
      · rfl
      · intro x hx; exact (hb x hx).1
    | succ i ih =>
      intro hi
      have hm := below_mono xs (b := (i : Int)) (c := ((i + 1 : Nat) : Int)) (by omega)
      have hl := below_le xs ((i + 1 : Nat) : Int)
      rw [pre, ih (by omega), cutsOf_get (by omega), cutsOf_get (by omega)]
      obtain ⟨d, hd⟩ : ∃ d, below xs ((i + 1 : Nat) : Int) = below xs i + d := ⟨_, (Nat.add_sub_cancel' hm).symm⟩
      rw [hd, List.take_add]
      congr 1
      have e : ((((below xs i + d : Nat) : Int) - ((below xs i : Nat) : Int)).toNat) = d := by omega
      rw [e]
      symm
      rw [List.eq_replicate_iff]
      refine ⟨by simp; omega, fun y hy => ?_⟩
      obtain ⟨j, hj, e⟩ := List.getElem_of_mem hy
      simp only [List.length_take, List.length_drop] at hj
      rw [List.getElem_take, List.getElem_drop] at e
      have g : xs[below xs i + j]? = some y := by rw [← e]; exact List.getElem?_eq_getElem _
      have a1 := below_lt hp (b := ((i + 1 : Nat) : Int)) g
      have a2 := below_lt hp (b := (i : Int)) g
      rw [hd] at a1
      have b1 : y < ((i + 1 : Nat) : Int) := a1.mpr (by omega)
      have b2 : ¬ y < (i : Int) := fun z => by have := a2.mp z; omega
      omega
  rw [key _ (Nat.le_refl _), below_all]
  · simp
  · intro x hx
    have := (hb x hx).2
    omega
theorem cuts_ris {cs : List Int} {n : Nat} (h : Cuts cs n) : ris n 0 cs := by
  have mono : ∀ d e, e + d ≤ n → cs.getD e 0 ≤ cs.getD (e + d) 0 := by
    intro d
    induction d with
    | zero => intro e _; simp
    | succ d ih =>
      intro e he
      have h1 := ih e (by omega)
      have h2 := h.up (e + d) (by omega)
      rw [show e + (d + 1) = e + d + 1 by omega]
      omega
  refine ris_of ?_ fun x hx => ?_
  · rw [List.pairwise_iff_getElem]
    intro i j hi hj hij
    have hl := h.len
    have := mono (j - i) i (by omega)
    rw [show i + (j - i) = j by omega, List.getD_eq_getElem?_getD, List.getD_eq_getElem?_getD, List.getElem?_eq_getElem hi, List.getElem?_eq_getElem hj] at this
    exact this
  · obtain ⟨i, hi, e⟩ := List.getElem_of_mem hx
    have hl := h.len
    have e' : cs.getD i 0 = x := by rw [List.getD_eq_getElem?_getD, List.getElem?_eq_getElem hi, e]; rfl
    have h1 := mono i 0 (by omega)
    have h2 := mono (n - i) i (by omega)
    rw [show i + (n - i) = n by omega, h.last] at h2
    rw [Nat.zero_add, h.zero] at h1
    omega
theorem cut_own {xs : List Int} (hp : xs.Pairwise (· ≤ ·)) {o e : Nat} {x : Int} (g : xs[o]? = some x) : (x = (e : Int)) ↔ (below xs e : Int) ≤ o ∧ (o : Int) < below xs ((e + 1 : Nat) : Int) := by
  have a1 := below_lt hp (b := ((e + 1 : Nat) : Int)) g
  have a2 := below_lt hp (b := (e : Int)) g
  constructor
  · intro z
    have : ¬ x < (e : Int) := by omega
    have h2 : x < ((e + 1 : Nat) : Int) := by omega
    exact ⟨by have := mt a2.mpr this; omega, by have := a1.mp h2; omega⟩
  · intro ⟨z1, z2⟩
    have b1 : x < ((e + 1 : Nat) : Int) := a1.mpr (by omega)
    have b2 : ¬ x < (e : Int) := fun z => by have := a2.mp z; omega
    omega
end TK

set_option Elab.async false
set_option linter.all false
set_option maxRecDepth 100000
set_option maxHeartbeats 4000000
namespace TK
open PySem PySem.Spec
open PyProof.Rows hiding St
open L2
noncomputable def m_is_integer : List D → Store → R D := hid (runDef 1 (sRet (eAnd (eIsi ["int"] (eVar 0)) (eNot (eIsi ["bool"] (eVar 0))))))
theorem m_is_integer_eq : m_is_integer = runDef 1 (sRet (eAnd (eIsi ["int"] (eVar 0)) (eNot (eIsi ["bool"] (eVar 0))))) := hid_eq _

noncomputable def m_is_within : List D → Store → R D := hid (runDef 3 (sRet (eAnd (eCall m_is_integer (lCons (eVar 0) lNil)) (eChain leD leD (eVar 1) (eVar 0) (eVar 2)))))
theorem m_is_within_eq : m_is_within = runDef 3 (sRet (eAnd (eCall m_is_integer (lCons (eVar 0) lNil)) (eChain leD leD (eVar 1) (eVar 0) (eVar 2)))) := hid_eq _

noncomputable def m_is_triple : List D → Store → R D := hid (runDef 1 (sRet (eAnd (eIsi ["tuple"] (eVar 0)) (e2 eqD (eQ lenG (lRd (eVar 0))) (eC (.int 3))))))
theorem m_is_triple_eq : m_is_triple = runDef 1 (sRet (eAnd (eIsi ["tuple"] (eVar 0)) (e2 eqD (eQ lenG (lRd (eVar 0))) (eC (.int 3))))) := hid_eq _

noncomputable def m_is_flag : List D → Store → R D := hid (runDef 1 (sRet (eIsi ["bool"] (eVar 0))))
theorem m_is_flag_eq : m_is_flag = runDef 1 (sRet (eIsi ["bool"] (eVar 0))) := hid_eq _

noncomputable def m_is_row : List D → Store → R D := hid (runDef 2 (sSeq (sIf (bOr (bNot (bTru (eCall m_is_triple (lCons (eVar 1) lNil)))) (bOr (bNot (bTru (eCall m_is_within (lCons (e2 getD (eVar 1) (eC (.int 0))) (lCons (eC (.int 0)) (lCons (e2 subD (eVar 0) (eC (.int 1))) lNil)))))) (bNot (bTru (eCall m_is_within (lCons (e2 getD (eVar 1) (eC (.int 1))) (lCons (eC (.int 0)) (lCons (e2 subD (eVar 0) (eC (.int 1))) lNil)))))))) (sRet (eC (.bl false))) sNil)
    (sRet (eAnd (e2 eqD (eB absG (lCons (e2 subD (e2 getD (eVar 1) (eC (.int 0))) (e2 getD (eVar 1) (eC (.int 1)))) lNil)) (eC (.int 1))) (eCall m_is_flag (lCons (e2 getD (eVar 1) (eC (.int 2))) lNil))))))
theorem m_is_row_eq : m_is_row = runDef 2 (sSeq (sIf (bOr (bNot (bTru (eCall m_is_triple (lCons (eVar 1) lNil)))) (bOr (bNot (bTru (eCall m_is_within (lCons (e2 getD (eVar 1) (eC (.int 0))) (lCons (eC (.int 0)) (lCons (e2 subD (eVar 0) (eC (.int 1))) lNil)))))) (bNot (bTru (eCall m_is_within (lCons (e2 getD (eVar 1) (eC (.int 1))) (lCons (eC (.int 0)) (lCons (e2 subD (eVar 0) (eC (.int 1))) lNil)))))))) (sRet (eC (.bl false))) sNil)
    (sRet (eAnd (e2 eqD (eB absG (lCons (e2 subD (e2 getD (eVar 1) (eC (.int 0))) (e2 getD (eVar 1) (eC (.int 1)))) lNil)) (eC (.int 1))) (eCall m_is_flag (lCons (e2 getD (eVar 1) (eC (.int 2))) lNil))))) := hid_eq _

noncomputable def m_first_bad : List D → Store → R D := hid (runDef 4 (sSeq (sFor (.tup [(.name 2), (.name 3)]) (iEnumF (lCons (eVar 1) lNil)) (sIf (bNot (bTru (eCall m_is_row (lCons (eVar 0) (lCons (eVar 3) lNil))))) (sRet (eVar 2)) sNil))
    (sRet (eC .non))))
theorem m_first_bad_eq : m_first_bad = runDef 4 (sSeq (sFor (.tup [(.name 2), (.name 3)]) (iEnumF (lCons (eVar 1) lNil)) (sIf (bNot (bTru (eCall m_is_row (lCons (eVar 0) (lCons (eVar 3) lNil))))) (sRet (eVar 2)) sNil))
    (sRet (eC .non))) := hid_eq _

noncomputable def m_Log__init : List D → Store → R D := hid (runDef 4 (sSeq (sIf (bNot (bTru (eCall m_is_within (lCons (eVar 1) (lCons (eC (.int 1)) (lCons (eC (.int 12)) lNil)))))) sBad sNil)
    (sSeq (sIf (bOr (bNot (bTru (eIsi ["tuple"] (eVar 2)))) (bB (e2 gtD (eQ lenG (lRd (eVar 2))) (eC (.int 60))))) sBad sNil)
    (sSeq (sSet 3 (eCall m_first_bad (lCons (eVar 1) (lCons (eVar 2) lNil))))
    (sSeq (sIf (bB (e2 notND (eVar 3) (eC .non))) sBad sNil)
    (sSeq (sFldA ["Log"] "offices" (eVar 0) (eVar 1))
    (sFldA ["Log"] "rows" (eVar 0) (eVar 2))))))))
theorem m_Log__init_eq : m_Log__init = runDef 4 (sSeq (sIf (bNot (bTru (eCall m_is_within (lCons (eVar 1) (lCons (eC (.int 1)) (lCons (eC (.int 12)) lNil)))))) sBad sNil)
    (sSeq (sIf (bOr (bNot (bTru (eIsi ["tuple"] (eVar 2)))) (bB (e2 gtD (eQ lenG (lRd (eVar 2))) (eC (.int 60))))) sBad sNil)
    (sSeq (sSet 3 (eCall m_first_bad (lCons (eVar 1) (lCons (eVar 2) lNil))))
    (sSeq (sIf (bB (e2 notND (eVar 3) (eC .non))) sBad sNil)
    (sSeq (sFldA ["Log"] "offices" (eVar 0) (eVar 1))
    (sFldA ["Log"] "rows" (eVar 0) (eVar 2))))))) := hid_eq _

noncomputable def m_check_row : List D → Store → R D := hid (runDef 2 (sIf (bNot (bTru (eCall m_is_within (lCons (eVar 1) (lCons (eC (.int 0)) (lCons (e2 subD (eQ lenG (lRd (eFld ["Log"] "rows" (eVar 0)))) (eC (.int 1))) lNil)))))) (sRaise "NoRow") sNil))
theorem m_check_row_eq : m_check_row = runDef 2 (sIf (bNot (bTru (eCall m_is_within (lCons (eVar 1) (lCons (eC (.int 0)) (lCons (e2 subD (eQ lenG (lRd (eFld ["Log"] "rows" (eVar 0)))) (eC (.int 1))) lNil)))))) (sRaise "NoRow") sNil) := hid_eq _

noncomputable def m_raw_log : List D → Store → R D := hid (runDef 3 (sSeq (sSet 2 (eMake "Log" m_Log__init (lCons (eVar 0) (lCons (eTup lNil) lNil))))
    (sSeq (sFldA ["Log"] "rows" (eVar 2) (eQ tupG (lRd (eVar 1))))
    (sRet (eVar 2)))))
theorem m_raw_log_eq : m_raw_log = runDef 3 (sSeq (sSet 2 (eMake "Log" m_Log__init (lCons (eVar 0) (lCons (eTup lNil) lNil))))
    (sSeq (sFldA ["Log"] "rows" (eVar 2) (eQ tupG (lRd (eVar 1))))
    (sRet (eVar 2)))) := hid_eq _

noncomputable def m_without : List D → Store → R D := hid (runDef 2 (sSeq (sDrop (eCall m_check_row (lCons (eVar 0) (lCons (eVar 1) lNil))))
    (sRet (eCall m_raw_log (lCons (eFld ["Log"] "offices" (eVar 0)) (lCons (e2 addD (eSl (eFld ["Log"] "rows" (eVar 0)) oNone (oSome (eVar 1))) (eSl (eFld ["Log"] "rows" (eVar 0)) (oSome (e2 addD (eVar 1) (eC (.int 1)))) oNone)) lNil))))))
theorem m_without_eq : m_without = runDef 2 (sSeq (sDrop (eCall m_check_row (lCons (eVar 0) (lCons (eVar 1) lNil))))
    (sRet (eCall m_raw_log (lCons (eFld ["Log"] "offices" (eVar 0)) (lCons (e2 addD (eSl (eFld ["Log"] "rows" (eVar 0)) oNone (oSome (eVar 1))) (eSl (eFld ["Log"] "rows" (eVar 0)) (oSome (e2 addD (eVar 1) (eC (.int 1)))) oNone)) lNil))))) := hid_eq _

noncomputable def m_check_loose : List D → Store → R D := hid (runDef 3 (sFor (.tup [(.name 1), (.name 2)]) (iEnumF (lCons (eFld ["Log"] "rows" (eVar 0)) lNil)) (sIf (bTru (e2 getD (eVar 2) (eC (.int 2)))) sBad sNil)))
theorem m_check_loose_eq : m_check_loose = runDef 3 (sFor (.tup [(.name 1), (.name 2)]) (iEnumF (lCons (eFld ["Log"] "rows" (eVar 0)) lNil)) (sIf (bTru (e2 getD (eVar 2) (eC (.int 2)))) sBad sNil)) := hid_eq _

noncomputable def m_is_left : List D → Store → R D := hid (runDef 1 (sRet (e2 gtD (e2 getD (eVar 0) (eC (.int 1))) (e2 getD (eVar 0) (eC (.int 0))))))
theorem m_is_left_eq : m_is_left = runDef 1 (sRet (e2 gtD (e2 getD (eVar 0) (eC (.int 1))) (e2 getD (eVar 0) (eC (.int 0))))) := hid_eq _

noncomputable def m_cut_of : List D → Store → R D := hid (runDef 1 (sRet (eB max2G (lCons (e2 getD (eVar 0) (eC (.int 0))) (lCons (e2 getD (eVar 0) (eC (.int 1))) lNil)))))
theorem m_cut_of_eq : m_cut_of = runDef 1 (sRet (eB max2G (lCons (e2 getD (eVar 0) (eC (.int 0))) (lCons (e2 getD (eVar 0) (eC (.int 1))) lNil)))) := hid_eq _

noncomputable def m_exchanged_at : List D → Store → R D := hid (runDef 2 (sSeq (sIf (bB (e2 ltD (e2 getD (eVar 0) (eVar 1)) (e2 getD (eVar 0) (e2 subD (eVar 1) (eC (.int 1)))))) (sRet (eVar 0)) sNil)
    (sRet (e2 addD (e2 addD (eSl (eVar 0) oNone (oSome (e2 subD (eVar 1) (eC (.int 1))))) (eTup (lCons (e2 getD (eVar 0) (eVar 1)) (lCons (e2 getD (eVar 0) (e2 subD (eVar 1) (eC (.int 1)))) lNil)))) (eSl (eVar 0) (oSome (e2 addD (eVar 1) (eC (.int 1)))) oNone)))))
theorem m_exchanged_at_eq : m_exchanged_at = runDef 2 (sSeq (sIf (bB (e2 ltD (e2 getD (eVar 0) (eVar 1)) (e2 getD (eVar 0) (e2 subD (eVar 1) (eC (.int 1)))))) (sRet (eVar 0)) sNil)
    (sRet (e2 addD (e2 addD (eSl (eVar 0) oNone (oSome (e2 subD (eVar 1) (eC (.int 1))))) (eTup (lCons (e2 getD (eVar 0) (eVar 1)) (lCons (e2 getD (eVar 0) (e2 subD (eVar 1) (eC (.int 1)))) lNil)))) (eSl (eVar 0) (oSome (e2 addD (eVar 1) (eC (.int 1)))) oNone)))) := hid_eq _

noncomputable def m_order_led : List D → Store → R D := hid (runDef 5 (sSeq (sSet 3 (eVar 0))
    (sSeq (sFor (.name 4) (iSeqF (eVar 1)) (sIf (bB (e2 eqD (eCall m_is_left (lCons (eVar 4) lNil)) (eVar 2))) (sSet 3 (eCall m_exchanged_at (lCons (eVar 3) (lCons (eCall m_cut_of (lCons (eVar 4) lNil)) lNil)))) sNil))
    (sRet (eVar 3)))))
theorem m_order_led_eq : m_order_led = runDef 5 (sSeq (sSet 3 (eVar 0))
    (sSeq (sFor (.name 4) (iSeqF (eVar 1)) (sIf (bB (e2 eqD (eCall m_is_left (lCons (eVar 4) lNil)) (eVar 2))) (sSet 3 (eCall m_exchanged_at (lCons (eVar 3) (lCons (eCall m_cut_of (lCons (eVar 4) lNil)) lNil)))) sNil))
    (sRet (eVar 3)))) := hid_eq _

noncomputable def m_orders : List D → Store → R D := hid (runDef 2 (sSeq (sSet 1 (eRng1 (eFld ["Log"] "offices" (eVar 0))))
    (sRet (eTup (lCons (eCall m_order_led (lCons (eVar 1) (lCons (eFld ["Log"] "rows" (eVar 0)) (lCons (eC (.bl true)) lNil)))) (lCons (eCall m_order_led (lCons (eVar 1) (lCons (eFld ["Log"] "rows" (eVar 0)) (lCons (eC (.bl false)) lNil)))) lNil))))))
theorem m_orders_eq : m_orders = runDef 2 (sSeq (sSet 1 (eRng1 (eFld ["Log"] "offices" (eVar 0))))
    (sRet (eTup (lCons (eCall m_order_led (lCons (eVar 1) (lCons (eFld ["Log"] "rows" (eVar 0)) (lCons (eC (.bl true)) lNil)))) (lCons (eCall m_order_led (lCons (eVar 1) (lCons (eFld ["Log"] "rows" (eVar 0)) (lCons (eC (.bl false)) lNil)))) lNil))))) := hid_eq _

noncomputable def m_needless : List D → Store → R D := hid (runDef 3 (sSeq (sDrop (eCall m_check_loose (lCons (eVar 0) lNil)))
    (sSeq (sSet 1 (eCall m_orders (lCons (eVar 0) lNil)))
    (sRet (eQ tupG (compF [2] (iRng1F (lCons (eQ lenG (lRd (eFld ["Log"] "rows" (eVar 0)))) lNil)) (.name 2) (bB (e2 eqD (eCall m_orders (lCons (eCall m_without (lCons (eVar 0) (lCons (eVar 2) lNil))) lNil)) (eVar 1))) (eVar 2)))))))
theorem m_needless_eq : m_needless = runDef 3 (sSeq (sDrop (eCall m_check_loose (lCons (eVar 0) lNil)))
    (sSeq (sSet 1 (eCall m_orders (lCons (eVar 0) lNil)))
    (sRet (eQ tupG (compF [2] (iRng1F (lCons (eQ lenG (lRd (eFld ["Log"] "rows" (eVar 0)))) lNil)) (.name 2) (bB (e2 eqD (eCall m_orders (lCons (eCall m_without (lCons (eVar 0) (lCons (eVar 2) lNil))) lNil)) (eVar 1))) (eVar 2)))))) := hid_eq _

noncomputable def m__law_hand : List D → Store → R D := hid (runDef 3 (sSeq (sSet 1 (eLst (compF [2] (iLstF (lSl (eVar 0) oNone (oSome (eC (.int 63))))) (.name 2) bYes (eB absG (lCons (eB intG (lCons (eVar 2) lNil)) lNil)))))
    (sRet (eLst (lLst (lCons (eVar 1) (lCons (eC (.int 0)) (lCons (eC (.int 0)) (lCons (e2 addD (eC (.int 1)) (eQ lenG (lRd (eVar 1)))) (lCons (eC (.int 0)) lNil))))))))))
theorem m__law_hand_eq : m__law_hand = runDef 3 (sSeq (sSet 1 (eLst (compF [2] (iLstF (lSl (eVar 0) oNone (oSome (eC (.int 63))))) (.name 2) bYes (eB absG (lCons (eB intG (lCons (eVar 2) lNil)) lNil)))))
    (sRet (eLst (lLst (lCons (eVar 1) (lCons (eC (.int 0)) (lCons (eC (.int 0)) (lCons (e2 addD (eC (.int 1)) (eQ lenG (lRd (eVar 1)))) (lCons (eC (.int 0)) lNil))))))))) := hid_eq _

noncomputable def m__law_draw : List D → Store → R D := hid (runDef 5 (sSeq (sIf (bAnd (bB (e2 eqD (e2 getD (eVar 0) (eC (.int 2))) (eC (.int 0)))) (bB (e2 ltD (e2 getD (eVar 0) (eC (.int 1))) (eQ lenG (lRd (e2 getD (eVar 0) (eC (.int 0)))))))) (sSeq (sSet 3 (e2 getD (e2 getD (eVar 0) (eC (.int 0))) (e2 getD (eVar 0) (eC (.int 1)))))
    (sSeq (sSub (eVar 0) (eC (.int 1)) (e2 addD (e2 getD (eVar 0) (eC (.int 1))) (eC (.int 1))))
    (sSeq (sSub (eVar 0) (eC (.int 3)) (e2 modD (eB intG (lCons (e2 addD (e2 addD (e2 mulD (e2 getD (eVar 0) (eC (.int 3))) (eC (.int 69621))) (eVar 3)) (eC (.int 11))) lNil)) (eC (.int 2147483629))))
    (sIf (bB (e2 geD (eVar 3) (e2 powD (eC (.int 10)) (eC (.int 18))))) (sSub (eVar 0) (eC (.int 2)) (eVar 3)) sNil)))) sNil)
    (sSeq (sIf (bB (e2 gtD (e2 getD (eVar 0) (eC (.int 2))) (eC (.int 0)))) (sSeq (sSet 4 (e2 modD (eB intG (lCons (e2 getD (eVar 0) (eC (.int 2))) lNil)) (eVar 1)))
    (sSeq (sSub (eVar 0) (eC (.int 2)) (e2 divD (e2 getD (eVar 0) (eC (.int 2))) (eVar 1)))
    (sRet (eVar 4)))) sNil)
    (sSeq (sSub (eVar 0) (eC (.int 4)) (e2 addD (e2 getD (eVar 0) (eC (.int 4))) (eC (.int 1))))
    (sSeq (sSet 2 (e2 modD (eB intG (lCons (e2 mulD (eB intG (lCons (e2 addD (e2 getD (eVar 0) (eC (.int 3))) (e2 mulD (eC (.int 7919)) (e2 getD (eVar 0) (eC (.int 4))))) lNil)) (eC (.int 48271))) lNil)) (eC (.int 2147483647))))
    (sSeq (sSet 2 (e2 modD (eB intG (lCons (e2 mulD (eVar 2) (e2 addD (e2 divD (eVar 2) (eC (.int 1009))) (eC (.int 69621)))) lNil)) (eC (.int 2147483647))))
    (sSeq (sSet 2 (e2 modD (eB intG (lCons (e2 mulD (eVar 2) (e2 addD (e2 divD (eVar 2) (eC (.int 2003))) (eC (.int 40692)))) lNil)) (eC (.int 2147483399))))
    (sRet (e2 modD (eB intG (lCons (e2 divD (eVar 2) (eC (.int 16))) lNil)) (eVar 1))))))))))
theorem m__law_draw_eq : m__law_draw = runDef 5 (sSeq (sIf (bAnd (bB (e2 eqD (e2 getD (eVar 0) (eC (.int 2))) (eC (.int 0)))) (bB (e2 ltD (e2 getD (eVar 0) (eC (.int 1))) (eQ lenG (lRd (e2 getD (eVar 0) (eC (.int 0)))))))) (sSeq (sSet 3 (e2 getD (e2 getD (eVar 0) (eC (.int 0))) (e2 getD (eVar 0) (eC (.int 1)))))
    (sSeq (sSub (eVar 0) (eC (.int 1)) (e2 addD (e2 getD (eVar 0) (eC (.int 1))) (eC (.int 1))))
    (sSeq (sSub (eVar 0) (eC (.int 3)) (e2 modD (eB intG (lCons (e2 addD (e2 addD (e2 mulD (e2 getD (eVar 0) (eC (.int 3))) (eC (.int 69621))) (eVar 3)) (eC (.int 11))) lNil)) (eC (.int 2147483629))))
    (sIf (bB (e2 geD (eVar 3) (e2 powD (eC (.int 10)) (eC (.int 18))))) (sSub (eVar 0) (eC (.int 2)) (eVar 3)) sNil)))) sNil)
    (sSeq (sIf (bB (e2 gtD (e2 getD (eVar 0) (eC (.int 2))) (eC (.int 0)))) (sSeq (sSet 4 (e2 modD (eB intG (lCons (e2 getD (eVar 0) (eC (.int 2))) lNil)) (eVar 1)))
    (sSeq (sSub (eVar 0) (eC (.int 2)) (e2 divD (e2 getD (eVar 0) (eC (.int 2))) (eVar 1)))
    (sRet (eVar 4)))) sNil)
    (sSeq (sSub (eVar 0) (eC (.int 4)) (e2 addD (e2 getD (eVar 0) (eC (.int 4))) (eC (.int 1))))
    (sSeq (sSet 2 (e2 modD (eB intG (lCons (e2 mulD (eB intG (lCons (e2 addD (e2 getD (eVar 0) (eC (.int 3))) (e2 mulD (eC (.int 7919)) (e2 getD (eVar 0) (eC (.int 4))))) lNil)) (eC (.int 48271))) lNil)) (eC (.int 2147483647))))
    (sSeq (sSet 2 (e2 modD (eB intG (lCons (e2 mulD (eVar 2) (e2 addD (e2 divD (eVar 2) (eC (.int 1009))) (eC (.int 69621)))) lNil)) (eC (.int 2147483647))))
    (sSeq (sSet 2 (e2 modD (eB intG (lCons (e2 mulD (eVar 2) (e2 addD (e2 divD (eVar 2) (eC (.int 2003))) (eC (.int 40692)))) lNil)) (eC (.int 2147483399))))
    (sRet (e2 modD (eB intG (lCons (e2 divD (eVar 2) (eC (.int 16))) lNil)) (eVar 1))))))))) := hid_eq _

noncomputable def m__law_rows : List D → Store → R D := hid (runDef 8 (sSeq (sIf (bB (e2 eqD (eVar 1) (eC (.int 1)))) (sRet (eTup lNil)) sNil)
    (sSeq (sSet 4 (eLst (lLst lNil)))
    (sSeq (sFor (.name 5) (iRng1F (lCons (eCall m__law_draw (lCons (eVar 0) (lCons (e2 addD (eVar 2) (eC (.int 1))) lNil))) lNil)) (sSeq (sSet 6 (eCall m__law_draw (lCons (eVar 0) (lCons (e2 subD (eVar 1) (eC (.int 1))) lNil))))
    (sSeq (sSet 7 (e2 getD (eLst (lLst (lCons (eTup (lCons (eVar 6) (lCons (e2 addD (eVar 6) (eC (.int 1))) lNil))) (lCons (eTup (lCons (e2 addD (eVar 6) (eC (.int 1))) (lCons (eVar 6) lNil))) lNil)))) (eCall m__law_draw (lCons (eVar 0) (lCons (eC (.int 2)) lNil)))))
    (sDrop (eM isLst appendG (eVar 4) (lCons (e2 addD (eVar 7) (eTup (lCons (e2 ltD (eCall m__law_draw (lCons (eVar 0) (lCons (eC (.int 12)) lNil))) (eVar 3)) lNil))) lNil))))))
    (sRet (eQ tupG (lRd (eVar 4))))))))
theorem m__law_rows_eq : m__law_rows = runDef 8 (sSeq (sIf (bB (e2 eqD (eVar 1) (eC (.int 1)))) (sRet (eTup lNil)) sNil)
    (sSeq (sSet 4 (eLst (lLst lNil)))
    (sSeq (sFor (.name 5) (iRng1F (lCons (eCall m__law_draw (lCons (eVar 0) (lCons (e2 addD (eVar 2) (eC (.int 1))) lNil))) lNil)) (sSeq (sSet 6 (eCall m__law_draw (lCons (eVar 0) (lCons (e2 subD (eVar 1) (eC (.int 1))) lNil))))
    (sSeq (sSet 7 (e2 getD (eLst (lLst (lCons (eTup (lCons (eVar 6) (lCons (e2 addD (eVar 6) (eC (.int 1))) lNil))) (lCons (eTup (lCons (e2 addD (eVar 6) (eC (.int 1))) (lCons (eVar 6) lNil))) lNil)))) (eCall m__law_draw (lCons (eVar 0) (lCons (eC (.int 2)) lNil)))))
    (sDrop (eM isLst appendG (eVar 4) (lCons (e2 addD (eVar 7) (eTup (lCons (e2 ltD (eCall m__law_draw (lCons (eVar 0) (lCons (eC (.int 12)) lNil))) (eVar 3)) lNil))) lNil))))))
    (sRet (eQ tupG (lRd (eVar 4))))))) := hid_eq _

noncomputable def m_check_offices : List D → Store → R D := hid (runDef 2 (sIf (bB (e2 neD (eFld ["Log"] "offices" (eVar 0)) (eFld ["Log"] "offices" (eVar 1)))) (sRaise "OtherOffices") sNil))
theorem m_check_offices_eq : m_check_offices = runDef 2 (sIf (bB (e2 neD (eFld ["Log"] "offices" (eVar 0)) (eFld ["Log"] "offices" (eVar 1)))) (sRaise "OtherOffices") sNil) := hid_eq _

noncomputable def m_check_both : List D → Store → R D := hid (runDef 2 (sSeq (sDrop (eCall m_check_offices (lCons (eVar 0) (lCons (eVar 1) lNil))))
    (sSeq (sDrop (eCall m_check_loose (lCons (eVar 0) lNil)))
    (sDrop (eCall m_check_loose (lCons (eVar 1) lNil))))))
theorem m_check_both_eq : m_check_both = runDef 2 (sSeq (sDrop (eCall m_check_offices (lCons (eVar 0) (lCons (eVar 1) lNil))))
    (sSeq (sDrop (eCall m_check_loose (lCons (eVar 0) lNil)))
    (sDrop (eCall m_check_loose (lCons (eVar 1) lNil))))) := hid_eq _

noncomputable def m_let_alike : List D → Store → R D := hid (runDef 2 (sSeq (sDrop (eCall m_check_both (lCons (eVar 0) (lCons (eVar 1) lNil))))
    (sRet (e2 eqD (eCall m_orders (lCons (eVar 0) lNil)) (eCall m_orders (lCons (eVar 1) lNil))))))
theorem m_let_alike_eq : m_let_alike = runDef 2 (sSeq (sDrop (eCall m_check_both (lCons (eVar 0) (lCons (eVar 1) lNil))))
    (sRet (e2 eqD (eCall m_orders (lCons (eVar 0) lNil)) (eCall m_orders (lCons (eVar 1) lNil))))) := hid_eq _

noncomputable def m__law_orders : List D → Store → R D := hid (runDef 7 (sSeq (sSet 2 (eLst (lLst (lCons (eLst (lRng1 (eVar 0))) (lCons (eLst (lRng1 (eVar 0))) lNil)))))
    (sSeq (sFor (.name 3) (iSeqF (eVar 1)) (sSeq (sSet 4 (e2 getD (eVar 2) (eB intG (lCons (e2 ltD (e2 getD (eVar 3) (eC (.int 1))) (e2 getD (eVar 3) (eC (.int 0)))) lNil))))
    (sSeq (sSet 5 (eB max2G (lCons (e2 getD (eVar 3) (eC (.int 0))) (lCons (e2 getD (eVar 3) (eC (.int 1))) lNil))))
    (sIf (bB (e2 gtD (e2 getD (eVar 4) (eVar 5)) (e2 getD (eVar 4) (e2 subD (eVar 5) (eC (.int 1)))))) (sSeq (sSet 6 (e2 getD (eVar 4) (eVar 5)))
    (sSeq (sSub (eVar 4) (eVar 5) (e2 getD (eVar 4) (e2 subD (eVar 5) (eC (.int 1)))))
    (sSub (eVar 4) (e2 subD (eVar 5) (eC (.int 1))) (eVar 6)))) sNil))))
    (sRet (eTup (lCons (eQ tupG (lRd (e2 getD (eVar 2) (eC (.int 0))))) (lCons (eQ tupG (lRd (e2 getD (eVar 2) (eC (.int 1))))) lNil)))))))
theorem m__law_orders_eq : m__law_orders = runDef 7 (sSeq (sSet 2 (eLst (lLst (lCons (eLst (lRng1 (eVar 0))) (lCons (eLst (lRng1 (eVar 0))) lNil)))))
    (sSeq (sFor (.name 3) (iSeqF (eVar 1)) (sSeq (sSet 4 (e2 getD (eVar 2) (eB intG (lCons (e2 ltD (e2 getD (eVar 3) (eC (.int 1))) (e2 getD (eVar 3) (eC (.int 0)))) lNil))))
    (sSeq (sSet 5 (eB max2G (lCons (e2 getD (eVar 3) (eC (.int 0))) (lCons (e2 getD (eVar 3) (eC (.int 1))) lNil))))
    (sIf (bB (e2 gtD (e2 getD (eVar 4) (eVar 5)) (e2 getD (eVar 4) (e2 subD (eVar 5) (eC (.int 1)))))) (sSeq (sSet 6 (e2 getD (eVar 4) (eVar 5)))
    (sSeq (sSub (eVar 4) (eVar 5) (e2 getD (eVar 4) (e2 subD (eVar 5) (eC (.int 1)))))
    (sSub (eVar 4) (e2 subD (eVar 5) (eC (.int 1))) (eVar 6)))) sNil))))
    (sRet (eTup (lCons (eQ tupG (lRd (e2 getD (eVar 2) (eC (.int 0))))) (lCons (eQ tupG (lRd (e2 getD (eVar 2) (eC (.int 1))))) lNil)))))) := hid_eq _

noncomputable def m__law_turned : List D → Store → R D := hid (runDef 3 (sRet (eQ sumG (compF [1] (iRng1F (lCons (eQ lenG (lRd (eVar 0))) lNil)) (.name 1) bYes (eQ lenG (compF [2] (iSeqF (eSl (eVar 0) (oSome (e2 addD (eVar 1) (eC (.int 1)))) oNone)) (.name 2) (bB (e2 ltD (eVar 2) (e2 getD (eVar 0) (eVar 1)))) (eVar 2)))))))
theorem m__law_turned_eq : m__law_turned = runDef 3 (sRet (eQ sumG (compF [1] (iRng1F (lCons (eQ lenG (lRd (eVar 0))) lNil)) (.name 1) bYes (eQ lenG (compF [2] (iSeqF (eSl (eVar 0) (oSome (e2 addD (eVar 1) (eC (.int 1)))) oNone)) (.name 2) (bB (e2 ltD (eVar 2) (e2 getD (eVar 0) (eVar 1)))) (eVar 2)))))) := hid_eq _

noncomputable def m__law_numbers : List D → Store → R D := hid (runDef 4 (sSeq (sIf (bNot (bTru (eIsi ["tuple"] (eVar 0)))) (sRet (eC (.bl false))) sNil)
    (sSeq (sSet 2 (e1 negD (eC (.int 1))))
    (sSeq (sFor (.name 3) (iSeqF (eVar 0)) (sSeq (sIf (bOr (bNot (bTru (eIsi ["int"] (eVar 3)))) (bOr (bTru (eIsi ["bool"] (eVar 3))) (bOr (bB (e2 leD (eVar 3) (eVar 2))) (bB (e2 geD (eVar 3) (eVar 1)))))) (sRet (eC (.bl false))) sNil)
    (sSet 2 (eVar 3))))
    (sRet (eC (.bl true)))))))
theorem m__law_numbers_eq : m__law_numbers = runDef 4 (sSeq (sIf (bNot (bTru (eIsi ["tuple"] (eVar 0)))) (sRet (eC (.bl false))) sNil)
    (sSeq (sSet 2 (e1 negD (eC (.int 1))))
    (sSeq (sFor (.name 3) (iSeqF (eVar 0)) (sSeq (sIf (bOr (bNot (bTru (eIsi ["int"] (eVar 3)))) (bOr (bTru (eIsi ["bool"] (eVar 3))) (bOr (bB (e2 leD (eVar 3) (eVar 2))) (bB (e2 geD (eVar 3) (eVar 1)))))) (sRet (eC (.bl false))) sNil)
    (sSet 2 (eVar 3))))
    (sRet (eC (.bl true)))))) := hid_eq _

noncomputable def m__law_is_right : List D → Store → R D := hid (runDef 7 (sSeq (sSet 2 (eMake "Log" m_Log__init (lCons (eVar 0) (lCons (eVar 1) lNil))))
    (sSeq (sSet 3 (eCall m_needless (lCons (eVar 2) lNil)))
    (sSeq (sSet 4 (eCall m__law_orders (lCons (eVar 0) (lCons (eVar 1) lNil))))
    (sSeq (sSet 5 (eLst (lLst lNil)))
    (sSeq (sFor (.name 6) (iRng1F (lCons (eQ lenG (lRd (eVar 1))) lNil)) (sIf (bB (e2 eqD (eCall m__law_orders (lCons (eVar 0) (lCons (e2 addD (eSl (eVar 1) oNone (oSome (eVar 6))) (eSl (eVar 1) (oSome (e2 addD (eVar 6) (eC (.int 1)))) oNone)) lNil))) (eVar 4))) (sDrop (eM isLst appendG (eVar 5) (lCons (eVar 6) lNil))) sNil))
    (sSeq (sIf (bOr (bNot (bTru (eCall m__law_numbers (lCons (eVar 3) (lCons (eQ lenG (lRd (eVar 1))) lNil))))) (bB (e2 neD (eVar 3) (eQ tupG (lRd (eVar 5)))))) (sRet (eC (.bl false))) sNil)
    (sSeq (sIf (bB (e2 neD (e2 eqD (eVar 3) (eTup lNil)) (e2 eqD (eQ lenG (lRd (eVar 1))) (e2 addD (eCall m__law_turned (lCons (e2 getD (eVar 4) (eC (.int 0))) lNil)) (eCall m__law_turned (lCons (e2 getD (eVar 4) (eC (.int 1))) lNil)))))) (sRet (eC (.bl false))) sNil)
    (sSeq (sFor (.name 6) (iRng1F (lCons (eQ lenG (lRd (eVar 1))) lNil)) (sSeq (sIf (bAnd (bB (e2 ltD (eVar 6) (eC (.int 3)))) (bB (e2 neD (eCall m_let_alike (lCons (eCall m_without (lCons (eVar 2) (lCons (eVar 6) lNil))) (lCons (eVar 2) lNil))) (e2 inD2 (eVar 6) (eVar 3))))) (sRet (eC (.bl false))) sNil)
    (sIf (bAnd (bB (e2 gtD (eVar 6) (eC (.int 0)))) (bAnd (bB (e2 eqD (e2 getD (eVar 1) (eVar 6)) (e2 getD (eVar 1) (e2 subD (eVar 6) (eC (.int 1)))))) (bOr (bB (e2 ninD2 (eVar 6) (eVar 3))) (bB (e2 ninD2 (e2 subD (eVar 6) (eC (.int 1))) (eVar 3)))))) (sRet (eC (.bl false))) sNil)))
    (sRet (e2 eqD (eCall m_needless (lCons (eVar 2) lNil)) (eVar 3))))))))))))
theorem m__law_is_right_eq : m__law_is_right = runDef 7 (sSeq (sSet 2 (eMake "Log" m_Log__init (lCons (eVar 0) (lCons (eVar 1) lNil))))
    (sSeq (sSet 3 (eCall m_needless (lCons (eVar 2) lNil)))
    (sSeq (sSet 4 (eCall m__law_orders (lCons (eVar 0) (lCons (eVar 1) lNil))))
    (sSeq (sSet 5 (eLst (lLst lNil)))
    (sSeq (sFor (.name 6) (iRng1F (lCons (eQ lenG (lRd (eVar 1))) lNil)) (sIf (bB (e2 eqD (eCall m__law_orders (lCons (eVar 0) (lCons (e2 addD (eSl (eVar 1) oNone (oSome (eVar 6))) (eSl (eVar 1) (oSome (e2 addD (eVar 6) (eC (.int 1)))) oNone)) lNil))) (eVar 4))) (sDrop (eM isLst appendG (eVar 5) (lCons (eVar 6) lNil))) sNil))
    (sSeq (sIf (bOr (bNot (bTru (eCall m__law_numbers (lCons (eVar 3) (lCons (eQ lenG (lRd (eVar 1))) lNil))))) (bB (e2 neD (eVar 3) (eQ tupG (lRd (eVar 5)))))) (sRet (eC (.bl false))) sNil)
    (sSeq (sIf (bB (e2 neD (e2 eqD (eVar 3) (eTup lNil)) (e2 eqD (eQ lenG (lRd (eVar 1))) (e2 addD (eCall m__law_turned (lCons (e2 getD (eVar 4) (eC (.int 0))) lNil)) (eCall m__law_turned (lCons (e2 getD (eVar 4) (eC (.int 1))) lNil)))))) (sRet (eC (.bl false))) sNil)
    (sSeq (sFor (.name 6) (iRng1F (lCons (eQ lenG (lRd (eVar 1))) lNil)) (sSeq (sIf (bAnd (bB (e2 ltD (eVar 6) (eC (.int 3)))) (bB (e2 neD (eCall m_let_alike (lCons (eCall m_without (lCons (eVar 2) (lCons (eVar 6) lNil))) (lCons (eVar 2) lNil))) (e2 inD2 (eVar 6) (eVar 3))))) (sRet (eC (.bl false))) sNil)
    (sIf (bAnd (bB (e2 gtD (eVar 6) (eC (.int 0)))) (bAnd (bB (e2 eqD (e2 getD (eVar 1) (eVar 6)) (e2 getD (eVar 1) (e2 subD (eVar 6) (eC (.int 1)))))) (bOr (bB (e2 ninD2 (eVar 6) (eVar 3))) (bB (e2 ninD2 (e2 subD (eVar 6) (eC (.int 1))) (eVar 3)))))) (sRet (eC (.bl false))) sNil)))
    (sRet (e2 eqD (eCall m_needless (lCons (eVar 2) lNil)) (eVar 3))))))))))) := hid_eq _

noncomputable def m__law_finals : List D → Store → R D := hid (runDef 7 (sSeq (sSet 2 (eLst (lLst (lCons (eRng1 (eVar 0)) lNil))))
    (sSeq (sFor (.name 3) (iSeqF (eVar 1)) (sSeq (sSet 4 eDctT)
    (sSeq (sFor (.name 5) (iSeqF (eVar 2)) (sSeq (sSet 6 (eLst (lQ lstG (lRd (eVar 5)))))
    (sSeq (sSub (eVar 6) (e2 getD (eVar 3) (eC (.int 0))) (e2 getD (eVar 5) (e2 getD (eVar 3) (eC (.int 1)))))
    (sSeq (sDput (eVar 4) (eQ tupG (lRd (eVar 6))) (eC (.bl true)))
    (sIf (bNot (bTru (e2 getD (eVar 3) (eC (.int 2))))) (sDput (eVar 4) (eVar 5) (eC (.bl true))) sNil)))))
    (sSet 2 (eLst (lKeysT (eVar 4)))))))
    (sRet (eVar 2)))))
theorem m__law_finals_eq : m__law_finals = runDef 7 (sSeq (sSet 2 (eLst (lLst (lCons (eRng1 (eVar 0)) lNil))))
    (sSeq (sFor (.name 3) (iSeqF (eVar 1)) (sSeq (sSet 4 eDctT)
    (sSeq (sFor (.name 5) (iSeqF (eVar 2)) (sSeq (sSet 6 (eLst (lQ lstG (lRd (eVar 5)))))
    (sSeq (sSub (eVar 6) (e2 getD (eVar 3) (eC (.int 0))) (e2 getD (eVar 5) (e2 getD (eVar 3) (eC (.int 1)))))
    (sSeq (sDput (eVar 4) (eQ tupG (lRd (eVar 6))) (eC (.bl true)))
    (sIf (bNot (bTru (e2 getD (eVar 3) (eC (.int 2))))) (sDput (eVar 4) (eVar 5) (eC (.bl true))) sNil)))))
    (sSet 2 (eLst (lKeysT (eVar 4)))))))
    (sRet (eVar 2)))) := hid_eq _

noncomputable def m__law_by_doings : List D → Store → R D := hid (runDef 5 (sSeq (sSet 2 (eLst (lQ sortTG (lDrop (eCall m__law_finals (lCons (eVar 0) (lCons (eVar 1) lNil)))))))
    (sSeq (sSet 3 (eLst (lLst lNil)))
    (sSeq (sFor (.name 4) (iRng1F (lCons (eQ lenG (lRd (eVar 1))) lNil)) (sIf (bB (e2 eqD (eLst (lQ sortTG (lDrop (eCall m__law_finals (lCons (eVar 0) (lCons (e2 addD (eSl (eVar 1) oNone (oSome (eVar 4))) (eSl (eVar 1) (oSome (e2 addD (eVar 4) (eC (.int 1)))) oNone)) lNil)))))) (eVar 2))) (sDrop (eM isLst appendG (eVar 3) (lCons (eVar 4) lNil))) sNil))
    (sRet (eQ tupG (lRd (eVar 3))))))))
theorem m__law_by_doings_eq : m__law_by_doings = runDef 5 (sSeq (sSet 2 (eLst (lQ sortTG (lDrop (eCall m__law_finals (lCons (eVar 0) (lCons (eVar 1) lNil)))))))
    (sSeq (sSet 3 (eLst (lLst lNil)))
    (sSeq (sFor (.name 4) (iRng1F (lCons (eQ lenG (lRd (eVar 1))) lNil)) (sIf (bB (e2 eqD (eLst (lQ sortTG (lDrop (eCall m__law_finals (lCons (eVar 0) (lCons (e2 addD (eSl (eVar 1) oNone (oSome (eVar 4))) (eSl (eVar 1) (oSome (e2 addD (eVar 4) (eC (.int 1)))) oNone)) lNil)))))) (eVar 2))) (sDrop (eM isLst appendG (eVar 3) (lCons (eVar 4) lNil))) sNil))
    (sRet (eQ tupG (lRd (eVar 3))))))) := hid_eq _

noncomputable def m_law : List D → Store → R D := hid (runDef 6 (sSeq (sSet 1 (eCall m__law_hand (lCons (eVar 0) lNil)))
    (sSeq (sFor (.name 2) (iRng1F (lCons (eC (.int 3)) lNil)) (sSeq (sSet 3 (e2 getD (eLst (lLst (lCons (e2 addD (eC (.int 1)) (eCall m__law_draw (lCons (eVar 1) (lCons (eC (.int 4)) lNil)))) (lCons (eC (.int 3)) (lCons (eC (.int 4)) lNil))))) (eVar 2)))
    (sSeq (sSet 4 (eCall m__law_rows (lCons (eVar 1) (lCons (eVar 3) (lCons (eC (.int 7)) (lCons (eC (.int 0)) lNil))))))
    (sSeq (sIf (bOr (bNot (bTru (eCall m__law_is_right (lCons (eVar 3) (lCons (eVar 4) lNil))))) (bB (e2 neD (eCall m_needless (lCons (eMake "Log" m_Log__init (lCons (eVar 3) (lCons (eVar 4) lNil))) lNil)) (eCall m__law_by_doings (lCons (eVar 3) (lCons (eVar 4) lNil)))))) (sRet (eC (.bl false))) sNil)
    (sIf (bB (e2 gtD (eQ lenG (lRd (eVar 4))) (eC (.int 0)))) (sSeq (sSet 5 (eCall m__law_draw (lCons (eVar 1) (lCons (eQ lenG (lRd (eVar 4))) lNil))))
    (sIf (bNot (bTru (eCall m__law_is_right (lCons (eVar 3) (lCons (e2 addD (e2 addD (eSl (eVar 4) oNone (oSome (eVar 5))) (eTup (lCons (e2 getD (eVar 4) (eVar 5)) lNil))) (eSl (eVar 4) (oSome (eVar 5)) oNone)) lNil))))) (sRet (eC (.bl false))) sNil)) sNil)))))
    (sSeq (sSet 3 (e2 getD (eLst (lLst (lCons (e2 addD (eC (.int 5)) (eCall m__law_draw (lCons (eVar 1) (lCons (eC (.int 4)) lNil)))) (lCons (eC (.int 12)) lNil)))) (eB intG (lCons (e2 eqD (eCall m__law_draw (lCons (eVar 1) (lCons (eC (.int 6)) lNil))) (eC (.int 0))) lNil))))
    (sRet (eCall m__law_is_right (lCons (eVar 3) (lCons (eCall m__law_rows (lCons (eVar 1) (lCons (eVar 3) (lCons (e2 getD (eLst (lLst (lCons (eC (.int 16)) (lCons (eC (.int 30)) lNil)))) (eB intG (lCons (e2 eqD (eVar 3) (eC (.int 12))) lNil))) (lCons (eC (.int 0)) lNil))))) lNil))))))))
theorem m_law_eq : m_law = runDef 6 (sSeq (sSet 1 (eCall m__law_hand (lCons (eVar 0) lNil)))
    (sSeq (sFor (.name 2) (iRng1F (lCons (eC (.int 3)) lNil)) (sSeq (sSet 3 (e2 getD (eLst (lLst (lCons (e2 addD (eC (.int 1)) (eCall m__law_draw (lCons (eVar 1) (lCons (eC (.int 4)) lNil)))) (lCons (eC (.int 3)) (lCons (eC (.int 4)) lNil))))) (eVar 2)))
    (sSeq (sSet 4 (eCall m__law_rows (lCons (eVar 1) (lCons (eVar 3) (lCons (eC (.int 7)) (lCons (eC (.int 0)) lNil))))))
    (sSeq (sIf (bOr (bNot (bTru (eCall m__law_is_right (lCons (eVar 3) (lCons (eVar 4) lNil))))) (bB (e2 neD (eCall m_needless (lCons (eMake "Log" m_Log__init (lCons (eVar 3) (lCons (eVar 4) lNil))) lNil)) (eCall m__law_by_doings (lCons (eVar 3) (lCons (eVar 4) lNil)))))) (sRet (eC (.bl false))) sNil)
    (sIf (bB (e2 gtD (eQ lenG (lRd (eVar 4))) (eC (.int 0)))) (sSeq (sSet 5 (eCall m__law_draw (lCons (eVar 1) (lCons (eQ lenG (lRd (eVar 4))) lNil))))
    (sIf (bNot (bTru (eCall m__law_is_right (lCons (eVar 3) (lCons (e2 addD (e2 addD (eSl (eVar 4) oNone (oSome (eVar 5))) (eTup (lCons (e2 getD (eVar 4) (eVar 5)) lNil))) (eSl (eVar 4) (oSome (eVar 5)) oNone)) lNil))))) (sRet (eC (.bl false))) sNil)) sNil)))))
    (sSeq (sSet 3 (e2 getD (eLst (lLst (lCons (e2 addD (eC (.int 5)) (eCall m__law_draw (lCons (eVar 1) (lCons (eC (.int 4)) lNil)))) (lCons (eC (.int 12)) lNil)))) (eB intG (lCons (e2 eqD (eCall m__law_draw (lCons (eVar 1) (lCons (eC (.int 6)) lNil))) (eC (.int 0))) lNil))))
    (sRet (eCall m__law_is_right (lCons (eVar 3) (lCons (eCall m__law_rows (lCons (eVar 1) (lCons (eVar 3) (lCons (e2 getD (eLst (lLst (lCons (eC (.int 16)) (lCons (eC (.int 30)) lNil)))) (eB intG (lCons (e2 eqD (eVar 3) (eC (.int 12))) lNil))) (lCons (eC (.int 0)) lNil))))) lNil))))))) := hid_eq _

end TK


set_option Elab.async false
set_option linter.all false
set_option maxRecDepth 100000
set_option maxHeartbeats 4000000
namespace TK
open PySem PySem.Spec
open PyProof.Rows hiding St
open L2
/-! # the dice -/
theorem mulS {i j : Int} (h0 : 0 ≤ i) (h1 : i < 9223372036854775808) (h2 : 0 ≤ j) (h3 : j < 9223372036854775808) : mulOk i j :=
  mulOk_lt (by omega) (Nat.lt_trans (show j.natAbs < 2 ^ 64 by omega) (by decide))
theorem divS {j : Int} (h2 : 0 < j) (h3 : j < 9223372036854775808) : divOk j := divOk_lt h2 (Nat.lt_trans (show j.natAbs < 2 ^ 64 by omega) (by decide))
@[simp] theorem pow18 (st : Store) : powD (.int 10) (.int 18) st = .ok (.int 1000000000000000000) st := by
  have : ((10 : Int) ^ 18) = 1000000000000000000 := by decide
  simp [powD]
section
variable {st : Store} {n c : Nat} {cells : List Int}
/-- the store with the dice at n -/
def dS (st : Store) (n c : Nat) (a b m e : Int) : Store := st.set n (.lst [.ref c, .int a, .int b, .int m, .int e])
theorem getD_r {xs : List D} {k : Nat} {j : Int} {d : D} (h : st[n]? = some (.lst xs)) (hj : j = k) (e : xs[k]? = some d) : getD (.ref n) (.int j) st = .ok d st := by
  subst hj
  rw [getD_ref, seqOf_ref, h]
  simp [atI_nat e]
theorem dS_at {a b m e : Int} (hn : n < st.length) : (dS st n c a b m e)[n]? = some (.lst [.ref c, .int a, .int b, .int m, .int e]) := by
  unfold dS
  rw [List.getElem?_set_self hn]
theorem dS_set {a b m e a' b' m' e' : Int} : (dS st n c a b m e).set n (.lst [.ref c, .int a', .int b', .int m', .int e']) = dS st n c a' b' m' e' := by
  unfold dS
  rw [List.set_set]
theorem dS_len {a b m e : Int} : (dS st n c a b m e).length = st.length := by simp [dS]
theorem dS0 {a b m e : Int} (hn : n < st.length) : getD (.ref n) (.int 0) (dS st n c a b m e) = .ok (.ref c) (dS st n c a b m e) := getD_r (k := 0) (dS_at hn) rfl rfl
theorem dS1 {a b m e : Int} (hn : n < st.length) : getD (.ref n) (.int 1) (dS st n c a b m e) = .ok (.int a) (dS st n c a b m e) := getD_r (k := 1) (dS_at hn) rfl rfl
theorem dS2 {a b m e : Int} (hn : n < st.length) : getD (.ref n) (.int 2) (dS st n c a b m e) = .ok (.int b) (dS st n c a b m e) := getD_r (k := 2) (dS_at hn) rfl rfl
theorem dS3 {a b m e : Int} (hn : n < st.length) : getD (.ref n) (.int 3) (dS st n c a b m e) = .ok (.int m) (dS st n c a b m e) := getD_r (k := 3) (dS_at hn) rfl rfl
theorem dS4 {a b m e : Int} (hn : n < st.length) : getD (.ref n) (.int 4) (dS st n c a b m e) = .ok (.int e) (dS st n c a b m e) := getD_r (k := 4) (dS_at hn) rfl rfl
theorem dSc {a b m e : Int} (hc : c ≠ n) (h : st[c]? = some (.lst (cells.map D.int))) : (dS st n c a b m e)[c]? = some (.lst (cells.map D.int)) := by
  unfold dS
  rw [List.getElem?_set_ne (Ne.symm hc)]
  exact h
theorem sSub_d {fo fi fe : EF} {env : AEnv} {s0 s1 : Store} {xs : List D} {k : Nat} {y : D} (h1 : fe env s0 = .ok y s1) (h2 : fo env s1 = .ok (.ref n) s1) (h3 : fi env s1 = .ok (.int k) s1) (h : s1[n]? = some (.lst xs)) (hk : k < xs.length) :
    sSub fo fi fe env s0 = .next env (s1.set n (.lst (xs.set k y))) := by
  have hx : ixN xs.length (k : Int) = some k := by
    unfold ixN
    rw [if_pos (by omega), if_pos (by omega)]
    simp
  simp [h1, h2, h3, h, hx]
theorem sub1 {a b m e v : Int} {fe : EF} {o : List (Option D)} {s0 : Store} (hn : n < st.length) (h : fe (some (.ref n) :: o) s0 = .ok (.int v) (dS st n c a b m e)) :
    sSub (eVar 0) (eC (.int 1)) fe (some (.ref n) :: o) s0 = .next (some (.ref n) :: o) (dS st n c v b m e) := by
  rw [sSub_d (k := 1) h (by simp) (by simp) (dS_at hn) (by simp)]
  simp [dS]
theorem sub2 {a b m e v : Int} {fe : EF} {o : List (Option D)} {s0 : Store} (hn : n < st.length) (h : fe (some (.ref n) :: o) s0 = .ok (.int v) (dS st n c a b m e)) :
    sSub (eVar 0) (eC (.int 2)) fe (some (.ref n) :: o) s0 = .next (some (.ref n) :: o) (dS st n c a v m e) := by
  rw [sSub_d (k := 2) h (by simp) (by simp) (dS_at hn) (by simp)]
  simp [dS]
theorem sub3 {a b m e v : Int} {fe : EF} {o : List (Option D)} {s0 : Store} (hn : n < st.length) (h : fe (some (.ref n) :: o) s0 = .ok (.int v) (dS st n c a b m e)) :
    sSub (eVar 0) (eC (.int 3)) fe (some (.ref n) :: o) s0 = .next (some (.ref n) :: o) (dS st n c a b v e) := by
  rw [sSub_d (k := 3) h (by simp) (by simp) (dS_at hn) (by simp)]
  simp [dS]
theorem sub4 {a b m e v : Int} {fe : EF} {o : List (Option D)} {s0 : Store} (hn : n < st.length) (h : fe (some (.ref n) :: o) s0 = .ok (.int v) (dS st n c a b m e)) :
    sSub (eVar 0) (eC (.int 4)) fe (some (.ref n) :: o) s0 = .next (some (.ref n) :: o) (dS st n c a b m v) := by
  rw [sSub_d (k := 4) h (by simp) (by simp) (dS_at hn) (by simp)]
  simp [dS]
noncomputable def drawHead : SF := (sIf (bAnd (bB (e2 eqD (e2 getD (eVar 0) (eC (.int 2))) (eC (.int 0)))) (bB (e2 ltD (e2 getD (eVar 0) (eC (.int 1))) (eQ lenG (lRd (e2 getD (eVar 0) (eC (.int 0)))))))) (sSeq (sSet 3 (e2 getD (e2 getD (eVar 0) (eC (.int 0))) (e2 getD (eVar 0) (eC (.int 1)))))
    (sSeq (sSub (eVar 0) (eC (.int 1)) (e2 addD (e2 getD (eVar 0) (eC (.int 1))) (eC (.int 1))))
    (sSeq (sSub (eVar 0) (eC (.int 3)) (e2 modD (eB intG (lCons (e2 addD (e2 addD (e2 mulD (e2 getD (eVar 0) (eC (.int 3))) (eC (.int 69621))) (eVar 3)) (eC (.int 11))) lNil)) (eC (.int 2147483629))))
    (sIf (bB (e2 geD (eVar 3) (e2 powD (eC (.int 10)) (eC (.int 18))))) (sSub (eVar 0) (eC (.int 2)) (eVar 3)) sNil)))) sNil)
noncomputable def drawTail : SF := (sSeq (sIf (bB (e2 gtD (e2 getD (eVar 0) (eC (.int 2))) (eC (.int 0)))) (sSeq (sSet 4 (e2 modD (eB intG (lCons (e2 getD (eVar 0) (eC (.int 2))) lNil)) (eVar 1)))
    (sSeq (sSub (eVar 0) (eC (.int 2)) (e2 divD (e2 getD (eVar 0) (eC (.int 2))) (eVar 1)))
    (sRet (eVar 4)))) sNil)
    (sSeq (sSub (eVar 0) (eC (.int 4)) (e2 addD (e2 getD (eVar 0) (eC (.int 4))) (eC (.int 1))))
    (sSeq (sSet 2 (e2 modD (eB intG (lCons (e2 mulD (eB intG (lCons (e2 addD (e2 getD (eVar 0) (eC (.int 3))) (e2 mulD (eC (.int 7919)) (e2 getD (eVar 0) (eC (.int 4))))) lNil)) (eC (.int 48271))) lNil)) (eC (.int 2147483647))))
    (sSeq (sSet 2 (e2 modD (eB intG (lCons (e2 mulD (eVar 2) (e2 addD (e2 divD (eVar 2) (eC (.int 1009))) (eC (.int 69621)))) lNil)) (eC (.int 2147483647))))
    (sSeq (sSet 2 (e2 modD (eB intG (lCons (e2 mulD (eVar 2) (e2 addD (e2 divD (eVar 2) (eC (.int 2003))) (eC (.int 40692)))) lNil)) (eC (.int 2147483399))))
    (sRet (e2 modD (eB intG (lCons (e2 divD (eVar 2) (eC (.int 16))) lNil)) (eVar 1))))))))
theorem draw_cut : m__law_draw = runDef 5 (sSeq drawHead drawTail) := m__law_draw_eq

theorem hx0 : ixN 5 0 = some 0 := rfl
theorem hx1 : ixN 5 1 = some 1 := rfl
theorem hx2 : ixN 5 2 = some 2 := rfl
theorem hx3 : ixN 5 3 = some 3 := rfl
theorem hx4 : ixN 5 4 = some 4 := rfl
theorem tail_ok {s a b m e : Int} (hn : n < st.length) (hb : 0 ≤ b) (hm0 : 0 ≤ m) (hm : m < 2147483647) (he0 : 0 ≤ e) (he : e < 1000000000) (hs0 : 0 < s) (hs : s < 1000000000) (o2 o3 o4 : Option D) :
    ∃ r b' m' e', drawTail [some (.ref n), some (.int s), o2, o3, o4] (dS st n c a b m e) = .ret (.int r) (dS st n c a b' m' e') ∧ 0 ≤ r ∧ r < s ∧ 0 ≤ b' ∧ 0 ≤ m' ∧ m' < 2147483647 ∧ 0 ≤ e' ∧ e' ≤ e + 1 := by
  have d0 : divOk s := divS hs0 (by omega)
  by_cases h : 0 < b
  · refine ⟨b % s, b / s, m, e, ?_, Int.emod_nonneg _ (by omega), Int.emod_lt_of_pos _ hs0, Int.ediv_nonneg hb (by omega), hm0, hm, he0, by omega⟩
    simp [drawTail, dS2 hn, dS_at hn, dS_set, hx2, h, hs0, d0]
  · obtain rfl : b = 0 := by omega
    have d1 : divOk 1009 := divS (by decide) (by decide)
    have d2 : divOk 2003 := divS (by decide) (by decide)
    have d3 : divOk 16 := divS (by decide) (by decide)
    have k1 : mulOk 7919 (e + 1) := mulS (by decide) (by decide) (by omega) (by omega)
    have k2 : mulOk (m + 7919 * (e + 1)) 48271 := mulS (by omega) (by omega) (by decide) (by decide)
    obtain ⟨m1, hm1⟩ : ∃ m1, m1 = ((m + 7919 * (e + 1)) * 48271) % 2147483647 := ⟨_, rfl⟩
    have b1 : 0 ≤ m1 ∧ m1 < 2147483647 := by omega
    have k3 : mulOk m1 (m1 / 1009 + 69621) := mulS b1.1 (by omega) (by omega) (by omega)
    obtain ⟨m2, hm2⟩ : ∃ m2, m2 = (m1 * (m1 / 1009 + 69621)) % 2147483647 := ⟨_, rfl⟩
    have b2 : 0 ≤ m2 ∧ m2 < 2147483647 := by rw [hm2]; exact ⟨Int.emod_nonneg _ (by decide), Int.emod_lt_of_pos _ (by decide)⟩
    have k4 : mulOk m2 (m2 / 2003 + 40692) := mulS b2.1 (by omega) (by omega) (by omega)
    obtain ⟨m3, hm3⟩ : ∃ m3, m3 = (m2 * (m2 / 2003 + 40692)) % 2147483399 := ⟨_, rfl⟩
    refine ⟨m3 / 16 % s, 0, m, e + 1, ?_, Int.emod_nonneg _ (by omega), Int.emod_lt_of_pos _ hs0, by omega, hm0, hm, by omega, by omega⟩
    simp [drawTail, dS2 hn, dS3 hn, dS4 hn, dS_at hn, dS_set, hx2, hx3, hx4, hs0, k1, k2, k3, k4, d1, d2, d3, ← hm1, ← hm2, ← hm3]
theorem head_ok {s a b m e : Int} (hn : n < st.length) (hc : c ≠ n) (hcell : st[c]? = some (.lst (cells.map D.int))) (hpos : ∀ x ∈ cells, 0 ≤ x) (ha : 0 ≤ a) (hb : 0 ≤ b) (hm0 : 0 ≤ m) (hm : m < 2147483647) :
    ∃ a' b' m' o3, drawHead [some (.ref n), some (.int s), none, none, none] (dS st n c a b m e) = .next [some (.ref n), some (.int s), none, o3, none] (dS st n c a' b' m' e) ∧ 0 ≤ a' ∧ 0 ≤ b' ∧ 0 ≤ m' ∧ m' < 2147483647 := by
  have hz := dSc (a := a) (b := b) (m := m) (e := e) hc hcell
  by_cases h : b = 0
  · subst h
    by_cases h2 : a < cells.length
    · obtain ⟨k, rfl⟩ : ∃ k : Nat, a = k := ⟨a.toNat, by omega⟩
      have hk : k < cells.length := by omega
      have hx := getD_r (j := (k : Int)) (dSc (a := (k : Int)) (b := 0) (m := m) (e := e) hc hcell) rfl (show (cells.map D.int)[k]? = some (.int cells[k]) by rw [List.getElem?_map, List.getElem?_eq_getElem hk]; rfl)
      obtain ⟨x, ex⟩ : ∃ x, x = cells[k] := ⟨_, rfl⟩
      have px : 0 ≤ x := by rw [ex]; exact hpos _ (List.getElem_mem _)
      rw [← ex] at hx
      by_cases h3 : 1000000000000000000 ≤ x
      · have k1 : mulOk m 69621 := mulS hm0 (by omega) (by decide) (by decide)
        refine ⟨k + 1, x, (m * 69621 + x + 11) % 2147483629, some (.int x), ?_, by omega, px, by omega, by omega⟩
        simp [drawHead, dS0 hn, dS1 hn, dS2 hn, dS3 hn, dS_at hn, dS_set, hx1, hx2, hx3, hz, hk, hx, h3, k1]
      · have k1 : mulOk m 69621 := mulS hm0 (by omega) (by decide) (by decide)
        refine ⟨k + 1, 0, (m * 69621 + x + 11) % 2147483629, some (.int x), ?_, by omega, by omega, by omega, by omega⟩
        simp [drawHead, dS0 hn, dS1 hn, dS2 hn, dS3 hn, dS_at hn, dS_set, hx1, hx3, hz, hk, hx, h3, k1]
    · refine ⟨a, 0, m, none, ?_, ha, by omega, hm0, hm⟩
      simp [drawHead, dS0 hn, dS1 hn, dS2 hn, hz, h2]
  · refine ⟨a, b, m, none, ?_, ha, hb, hm0, hm⟩
    simp [drawHead, dS2 hn, h]
/-- the dice stand at n, no more than k times thrown without digits -/
def Dice (n : Nat) (k : Int) (st : Store) : Prop := ∃ (c : Nat) (cells : List Int) (a b m e : Int), st = dS st n c a b m e ∧ n < st.length ∧ c < n ∧ st[c]? = some (.lst (cells.map D.int)) ∧ (∀ x ∈ cells, 0 ≤ x) ∧ 0 ≤ a ∧ 0 ≤ b ∧ 0 ≤ m ∧ m < 2147483647 ∧ 0 ≤ e ∧ e ≤ k
/-- all but the dice unchanged -/
def SameBut (n : Nat) (st st' : Store) : Prop := st'.length = st.length ∧ ∀ i, i ≠ n → st'[i]? = st[i]?
theorem SameBut.refl {n : Nat} {st : Store} : SameBut n st st := ⟨rfl, fun _ _ => rfl⟩
theorem SameBut.trans {n : Nat} {st st1 st2 : Store} (h : SameBut n st st1) (k : SameBut n st1 st2) : SameBut n st st2 := ⟨k.1.trans h.1, fun i hi => (k.2 i hi).trans (h.2 i hi)⟩
theorem dS_same {a b m e : Int} : SameBut n st (dS st n c a b m e) := ⟨dS_len, fun i hi => by unfold dS; rw [List.getElem?_set_ne (Ne.symm hi)]⟩
theorem draw_ok {s k : Int} (h : Dice n k st) (hk : k < 1000000000) (hs0 : 0 < s) (hs : s < 1000000000) :
    ∃ r st', gcH st (m__law_draw [.ref n, .int s] st) = .ok (.int r) st' ∧ 0 ≤ r ∧ r < s ∧ Dice n (k + 1) st' ∧ SameBut n st st' := by
  obtain ⟨c, cells, a, b, m, e, h0, hn, hc, hcell, hpos, ha, hb, hm0, hm, he0, he⟩ := h
  obtain ⟨a', b', m', o3, e1, ha', hb', hm0', hm'⟩ := head_ok (s := s) (e := e) hn (Nat.ne_of_lt hc) hcell hpos ha hb hm0 hm
  obtain ⟨r, b2, m2, e2, e3, hr0, hr, hb2, hm20, hm2, he20, he2⟩ := tail_ok (c := c) (a := a') (o2 := none) (o3 := o3) (o4 := none) hn hb' hm0' hm' he0 (by omega) hs0 hs
  have ed : m__law_draw [.ref n, .int s] st = .ok (.int r) (dS st n c a' b2 m2 e2) := by
    rw [draw_cut, h0]
    simp only [runDef_ap, sSeq_ap]
    have e1' : drawHead (List.map some [D.ref n, D.int s] ++ List.replicate (5 - [D.ref n, D.int s].length) none) (dS st n c a b m e) = .next [some (.ref n), some (.int s), none, o3, none] (dS st n c a' b' m' e) := e1
    rw [e1']
    simp only [sThen_next]
    rw [e3, ← h0]
  refine ⟨r, dS st n c a' b2 m2 e2, ?_, hr0, hr, ?_, dS_same⟩
  · rw [ed]
    unfold dS
    exact gcR_set rfl (by simp [closedO, closeds, closed]; omega)
  · refine ⟨c, cells, a', b2, m2, e2, ?_, by rw [dS_len]; exact hn, hc, ?_, hpos, ha', hb2, hm20, hm2, he20, by omega⟩
    · unfold dS; rw [List.set_set]
    · exact dSc (Nat.ne_of_lt hc) hcell
end
end TK

set_option Elab.async false
set_option linter.all false
set_option maxRecDepth 100000
set_option maxHeartbeats 4000000
namespace TK
open PySem PySem.Spec
open PyProof.Rows hiding St
open L2
/-! # what the laws draw: offices, rows, doings -/
section
variable {st s1 : Store} {n : Nat} {k : Int}
theorem Dice.mono {n : Nat} {k k' : Int} (h : Dice n k st) (hk : k ≤ k') : Dice n k' st := by
  obtain ⟨c, cells, a, b, m, e, h0, hn, hc, hcell, hpos, ha, hb, hm0, hm, he0, he⟩ := h
  exact ⟨c, cells, a, b, m, e, h0, hn, hc, hcell, hpos, ha, hb, hm0, hm, he0, by omega⟩
theorem Dice.lt (h : Dice n k st) : n < st.length := by
  obtain ⟨c, cells, a, b, m, e, h0, hn, _⟩ := h
  exact hn
theorem Dice.app (h : Dice n k st) (x : Store) : Dice n k (st ++ x) := by
  obtain ⟨c, cells, a, b, m, e, h0, hn, hc, hcell, hr⟩ := h
  refine ⟨c, cells, a, b, m, e, ?_, by simp; omega, hc, ?_, hr⟩
  · unfold dS at h0 ⊢
    rw [List.set_append_left _ _ hn, ← h0]
  · rw [List.getElem?_append_left (by omega)]; exact hcell
/-- the store grown, all old objects but the dice as they were -/
def Near (n : Nat) (st s' : Store) : Prop := st.length ≤ s'.length ∧ ∀ i, i < st.length → i ≠ n → s'[i]? = st[i]?
theorem SameBut.near (h : SameBut n st s1) : Near n st s1 := ⟨Nat.le_of_eq h.1.symm, fun i _ hn => h.2 i hn⟩
theorem Near.refl : Near n st st := ⟨Nat.le_refl _, fun _ _ _ => rfl⟩
theorem Near.app (x : Store) : Near n st (st ++ x) := ⟨by simp, fun i h _ => List.getElem?_append_left h⟩
theorem Near.trans {s2 : Store} (h : Near n st s1) (h2 : Near n s1 s2) : Near n st s2 := ⟨Nat.le_trans h.1 h2.1, fun i hi hn => (h2.2 i (Nat.lt_of_lt_of_le hi h.1) hn).trans (h.2 i hi hn)⟩
theorem Dice.cut (h : Dice n k s1) (hn : n < st.length) (hs : Near n st s1) : Dice n k (s1.take st.length) := by
  obtain ⟨c, cells, a, b, m, e, h0, hn1, hc, hcell, hr⟩ := h
  refine ⟨c, cells, a, b, m, e, ?_, by rw [List.length_take]; omega, hc, ?_, hr⟩
  · unfold dS at h0 ⊢
    rw [← List.take_set, ← h0]
  · rw [List.getElem?_take_of_lt (by omega)]; exact hcell
theorem gc_near {d : D} (h : Dice n k s1) (hn : n < st.length) (hs : Near n st s1) (hd : closed st.length d = true) : ∃ s2, gcH st (.ok d s1) = .ok d s2 ∧ Dice n k s2 ∧ SameBut n st s2 := by
  refine ⟨s1.take st.length, ?_, h.cut hn hs, ?_⟩
  · have ht : Trim st s1 := fun i hi => by
      by_cases e : i = n
      · subst e
        obtain ⟨c, cells, a, b, m, e, h0, hn1, hc, _⟩ := h
        refine .inr ⟨.lst [.ref c, .int a, .int b, .int m, .int e], ?_, ?_⟩
        · rw [h0]; exact dS_at hn1
        · simp [closedO, closeds, closed]; omega
      · exact .inl (hs.2 i hi e)
    unfold gcH
    rw [hid_eq]
    unfold gcR
    simp [ht, hd]
  · refine ⟨by rw [List.length_take]; have := hs.1; omega, fun i hi => ?_⟩
    by_cases h1 : i < st.length
    · rw [List.getElem?_take_of_lt h1]; exact hs.2 i h1 hi
    · rw [List.getElem?_eq_none (by simp; omega), List.getElem?_eq_none (by omega)]
theorem pick3 {p : Nat} {a b c r : Int} (h : st[p]? = some (.lst [.int a, .int b, .int c])) (h0 : 0 ≤ r) (h1 : r < 3) : ∃ v, getD (.ref p) (.int r) st = .ok (.int v) st := by
  obtain ⟨j, rfl⟩ : ∃ j : Nat, r = j := ⟨r.toNat, by omega⟩
  have : j = 0 ∨ j = 1 ∨ j = 2 := by omega
  rcases this with rfl | rfl | rfl
  · exact ⟨a, getD_r h rfl rfl⟩
  · exact ⟨b, getD_r h rfl rfl⟩
  · exact ⟨c, getD_r h rfl rfl⟩
def RowD (N : Int) (d : D) : Prop := ∃ x y f, d = .tup [.int x, .int y, .bl f] ∧ 0 ≤ x ∧ x < N ∧ 0 ≤ y ∧ y < N ∧ (y = x + 1 ∨ y = x - 1)
theorem rowD_closed {N : Int} {j : Nat} : ∀ {ds : List D}, (∀ d ∈ ds, RowD N d) → closeds j ds = true
  | [], _ => rfl
  | d :: ds, h => by
    obtain ⟨x, y, f, rfl, _⟩ := h d (by simp)
    simp [closeds, closed, rowD_closed fun d hd => h d (List.mem_cons_of_mem _ hd)]
end
end TK

set_option Elab.async false
set_option linter.all false
set_option maxRecDepth 100000
set_option maxHeartbeats 4000000
namespace TK
open PySem PySem.Spec
open PyProof.Rows hiding St
open L2
/-! # checks, sameness, the first dice, sorting: as in many laws -/
variable {st : Store}
theorem is_integer_ok (i : Int) : m_is_integer [.int i] st = .ok (.bl true) st := by
  simp [m_is_integer_eq]
theorem is_within_ok (i lo hi : Int) : m_is_within [.int i, .int lo, .int hi] st = .ok (.bl (decide (lo ≤ i) && decide (i ≤ hi))) st := by
  simp [m_is_within_eq, is_integer_ok]
  by_cases h : lo ≤ i <;> simp [h]
def plainT : Nat → D → Prop
  | _, .bl _ => True
  | _, .int _ => True
  | k + 1, .tup ds => ds.length ≤ 1000 ∧ ∀ d ∈ ds, plainT k d
  | _, _ => False
theorem zipD_lenS : ∀ ds : List D, (zipD ds ds).length = ds.length
  | [] => rfl
  | d :: ds => by simp [zipD, zipD_lenS ds]
theorem zipD_mem : ∀ {ds : List D} {d : D}, d ∈ zipD ds ds → ∃ x ∈ ds, d = .tup [x, x]
  | [], d, h => by simp [zipD] at h
  | x :: ds, d, h => by
    rw [zipD, List.mem_cons] at h
    rcases h with rfl | h
    · exact ⟨x, by simp, rfl⟩
    · obtain ⟨y, hy, e⟩ := zipD_mem h
      exact ⟨y, by simp [hy], e⟩
theorem boolsOf_true : ∀ l : List D, boolsOf (l.map fun _ => D.bl true) = some (l.map fun _ => true)
  | [] => rfl
  | _ :: l => by simp [boolsOf, boolsOf_true l]
theorem allG_true (l : List D) (st : Store) : allG (l.map fun _ => D.bl true) st = .ok (.bl true) st := by
  unfold allG
  rw [boolsOf_true]
  simp
theorem cutD_mem {xs : List D} {lo hi : Option Int} {d : D} (h : d ∈ cutD xs lo hi) : d ∈ xs := by
  unfold cutD at h
  exact List.mem_of_mem_drop (List.mem_of_mem_take h)
theorem cutD_lenZ (xs : List D) (lo hi : Option Int) : (cutD xs lo hi).length ≤ xs.length := by
  unfold cutD
  simp only [List.length_take, List.length_drop]
  omega
def absI (i : Int) : Int := if i < 0 then -i else i
theorem lDrop_call {m : List D → Store → R D} {fa : LF} {env : AEnv} {as zs : List D} {p : Nat} {X : Store} (h1 : fa env st = .ok as st) (h2 : m as st = .ok (.ref p) (st ++ X)) (hp : st.length ≤ p) (h3 : (st ++ X)[p]? = some (.lst zs)) (hc : closeds st.length zs = true) :
    lDrop (eCall m fa) env st = .ok zs st := lDrop_ok (by rw [eCall_ap, h1, R.bind_ok, h2]; exact gcR_new X [] hc p h3 hp) hc
theorem insI_mem {x z : Int} : ∀ {l : List Int}, z ∈ insI x l ↔ z = x ∨ z ∈ l
  | [] => by simp [insI]
  | y :: ys => by
    unfold insI
    split
    · simp
    · simp [insI_mem (l := ys)]
      constructor
      · rintro (h | h | h) <;> simp [h]
      · rintro (h | h | h) <;> simp [h]
theorem insI_len {x : Int} : ∀ {l : List Int}, (insI x l).length = l.length + 1
  | [] => rfl
  | y :: ys => by
    unfold insI
    split
    · rfl
    · simp [insI_len (l := ys)]
theorem insI_pair {x : Int} : ∀ {l : List Int}, l.Pairwise (· ≤ ·) → (insI x l).Pairwise (· ≤ ·)
  | [], _ => by simp [insI]
  | y :: ys, h => by
    rw [List.pairwise_cons] at h
    unfold insI
    split
    · rename_i hx
      rw [List.pairwise_cons, List.pairwise_cons]
      refine ⟨fun z hz => ?_, h⟩
      rcases List.mem_cons.mp hz with rfl | hz
      · exact hx
      · have := h.1 z hz; omega
    · rename_i hx
      rw [List.pairwise_cons]
      refine ⟨fun z hz => ?_, insI_pair h.2⟩
      rcases insI_mem.mp hz with rfl | hz
      · omega
      · exact h.1 z hz
theorem sortI_mem {z : Int} : ∀ {l : List Int}, z ∈ sortI l ↔ z ∈ l
  | [] => by simp [sortI]
  | y :: ys => by simp [sortI, insI_mem, sortI_mem (l := ys)]
theorem sortI_len : ∀ {l : List Int}, (sortI l).length = l.length
  | [] => rfl
  | y :: ys => by simp [sortI, insI_len, sortI_len (l := ys)]
theorem sortI_pair : ∀ l : List Int, (sortI l).Pairwise (· ≤ ·)
  | [] => by simp [sortI]
  | y :: ys => by rw [sortI]; exact insI_pair (sortI_pair ys)
theorem intsOf_ints : ∀ ns : List Int, intsOf (ns.map D.int) = some ns
  | [] => rfl
  | n :: ns => by simp [intsOf, intsOf_ints ns]
theorem sortG_ints (ns : List Int) : sortG (ns.map D.int) st = .ok ((sortI ns).map D.int) st := by
  unfold sortG
  rw [intsOf_ints]

theorem insI_low {x : Int} : ∀ {l : List Int}, (∀ y ∈ l, x ≤ y) → insI x l = x :: l
  | [], _ => rfl
  | y :: ys, h => by
    unfold insI
    rw [if_pos (h y (by simp))]
theorem sortI_id : ∀ {l : List Int}, l.Pairwise (· ≤ ·) → sortI l = l
  | [], _ => rfl
  | x :: xs, h => by
    rw [List.pairwise_cons] at h
    rw [sortI, sortI_id h.2, insI_low h.1]
@[simp] theorem neD_ints (xs ys : List Int) : neD (.tup (xs.map D.int)) (.tup (ys.map D.int)) st = .ok (.bl (decide (xs ≠ ys))) st := by
  unfold neD eqP
  rw [toP_ints, toP_ints]
  simp only [shaped_ints, and_self, if_true]
  show R.ok (D.bl (!PyData.eqvAll (pyI xs) (pyI ys))) st = _
  rw [eqv_ints]
  simp
theorem mapM_ints {f : D → Option PyData} (h : ∀ i, f (.int i) = some (.int i)) : ∀ xs : List Int, (xs.map D.int).mapM f = some (pyI xs)
  | [] => rfl
  | x :: xs => by
    rw [List.map_cons, List.mapM_cons, h, mapM_ints h xs]
    rfl
theorem toP_ref {a : Nat} {xs : List Int} (h : st[a]? = some (.lst (xs.map D.int))) : toP st 50 (.ref a) = some (.list (pyI xs)) := by
  show (match seqOf (.ref a) st with
    | some ds => (ds.mapM (toP st 49)).map PyData.list
    | none => none) = _
  rw [seqOf_ref, h]
  simp only [mapM_ints (f := toP st 49) (fun i => rfl) xs]
  rfl
theorem shaped_list (ns : List Int) : SeqAt.shaped (.list (pyI ns)) = true := by
  unfold SeqAt.shaped
  have h1 : (PyData.list (pyI ns)).canLay0 = true := canLay_ints ns
  have h2 : (PyData.list (pyI ns)).depth ≤ 64 := by
    show PyData.depthAll (pyI ns) + 1 ≤ 64
    rw [depthAll_ints]; decide
  simp [h1, h2]
theorem neD_refs {a b : Nat} {xs ys : List Int} (ha : st[a]? = some (.lst (xs.map D.int))) (hb : st[b]? = some (.lst (ys.map D.int))) : neD (.ref a) (.ref b) st = .ok (.bl (decide (xs ≠ ys))) st := by
  unfold neD eqP
  rw [toP_ref ha, toP_ref hb]
  simp only [shaped_list, and_self, if_true]
  show R.ok (D.bl (!PyData.eqvAll (pyI xs) (pyI ys))) st = _
  rw [eqv_ints]
  simp
end TK

set_option Elab.async false
set_option linter.all false
set_option maxRecDepth 100000
set_option maxHeartbeats 4000000
namespace TK
open PySem PySem.Spec
open PyProof.Rows hiding St
open L2
/-! # sameness of lists; places picked -/
variable {st : Store}
theorem ints_plain (k : Nat) (xs : List Int) (h : xs.length ≤ 1000) : plainT (k + 1) (.tup (xs.map D.int)) := ⟨by simpa using h, fun d hd => by obtain ⟨i, _, rfl⟩ := List.mem_map.mp hd; cases k <;> trivial⟩
theorem rangeD_get' {n i : Nat} {d : D} (h : (rangeD 0 n)[i]? = some d) : d = .int (i : Int) ∧ i < n := by
  rw [rangeD_get] at h
  split at h
  · rename_i hi
    cases h
    exact ⟨by rw [Int.zero_add], hi⟩
  · cases h
/-- the places below n with a property -/
def placesS (p : Nat → Bool) (n : Nat) : List Int := ((List.range n).filter p).map fun (i : Nat) => (i : Int)
theorem placesS_len (p : Nat → Bool) (n : Nat) : (placesS p n).length ≤ n := by
  unfold placesS
  rw [List.length_map]
  exact Nat.le_trans (List.length_filter_le _ _) (by simp)
theorem places_range (p : Nat → Bool) (q : D → Bool) (n : Nat) (h : ∀ i, i < n → q (.int (i : Int)) = p i) : (rangeD 0 n).filter q = (placesS p n).map D.int := by
  unfold rangeD placesS
  rw [List.filter_map, List.map_map]
  have e : (List.range n).filter (q ∘ fun (i : Nat) => D.int (0 + (i : Int))) = (List.range n).filter p := List.filter_congr fun i hi => by
    have := h i (List.mem_range.mp hi)
    simpa using this
  rw [e]
  refine List.map_congr_left fun i _ => ?_
  simp
theorem enum_range : ∀ (l : List D) (k : Nat), (enumFrom k l).length = l.length
  | [], _ => rfl
  | x :: l, k => by simp [enumFrom, enum_range l]
theorem enum_places (p : Nat → Bool) (q : D → Bool) (f : D → D) : ∀ (l : List D) (k : Nat), (∀ i x, l[i]? = some x → q (.tup [.int ((k + i : Nat) : Int), x]) = p (k + i) ∧ f (.tup [.int ((k + i : Nat) : Int), x]) = .int ((k + i : Nat) : Int)) →
    ((enumFrom k l).filter q).map f = (((List.range l.length).filter fun i => p (k + i)).map fun (i : Nat) => D.int ((k + i : Nat) : Int))
  | [], k, _ => rfl
  | x :: l, k, h => by
    have h0 := h 0 x rfl
    rw [Nat.add_zero] at h0
    have ih := enum_places p q f l (k + 1) fun i y hy => by
      have := h (i + 1) y (by simpa using hy)
      have e : k + 1 + i = k + (i + 1) := by omega
      rw [e]
      exact this
    have e2 : (fun i => p (k + 1 + i)) = (fun i => p (k + i)) ∘ Nat.succ := by
      funext i
      show p (k + 1 + i) = p (k + (i + 1))
      congr 1
      omega
    have e3 : (fun (i : Nat) => D.int ((k + 1 + i : Nat) : Int)) = (fun (i : Nat) => D.int ((k + i : Nat) : Int)) ∘ Nat.succ := by
      funext i
      show D.int ((k + 1 + i : Nat) : Int) = D.int ((k + (i + 1) : Nat) : Int)
      congr 2
      omega
    rw [enumFrom, List.length_cons, List.range_succ_eq_map, List.filter_cons, List.filter_cons, List.filter_map, h0.1]
    rw [e2, e3] at ih
    by_cases c : p k = true
    · rw [if_pos c, if_pos (by exact c), List.map_cons, List.map_cons, ih, List.map_map, h0.2, Nat.add_zero]
    · rw [if_neg c, if_neg (by exact c), ih, List.map_map]
end TK

set_option Elab.async false
set_option linter.all false
set_option maxRecDepth 100000
set_option maxHeartbeats 4000000
namespace TK
open PySem PySem.Spec
open PyProof.Rows hiding St
open L2
/-! # logs, doings, led sheets -/
@[simp] theorem eFld_ap (cs : List Str) (f : Str) (fe : EF) (env : AEnv) (st : Store) : eFld cs f fe env st = ((fe env st).bind fun d st1 => match d with
  | .ref n => (match st1[n]? with
    | some (.ins c fs) => if c ∈ cs then (match fs.lookup f with
      | some d => .ok d st1
      | none => .bad) else .bad
    | _ => .bad)
  | _ => .bad) := (Eq.refl _).trans rfl
@[simp] theorem sFldA_ap (cs : List Str) (f : Str) (fo fe : EF) (env : AEnv) (st : Store) : sFldA cs f fo fe env st = (sOf (fe env st) env fun y st1 => sOf (fo env st1) env fun x st2 => match x with
  | .ref n => (match st2[n]? with
    | some (.ins c fs) => if c ∈ cs ∧ fs.length < 1000 then .next env (st2.set n (.ins c (putFD f y fs))) else .bad
    | _ => .bad)
  | _ => .bad) := (Eq.refl _).trans rfl
variable {st : Store}
/-- a row: from, to, sure -/
structure Rw where
  x : Nat
  y : Nat
  f : Bool
def rwD (r : Rw) : D := .tup [.int r.x, .int r.y, .bl r.f]
def RwOk (N : Nat) (r : Rw) : Prop := r.x < N ∧ r.y < N ∧ (r.y = r.x + 1 ∨ r.x = r.y + 1)
theorem rowD_rw {N : Nat} {d : D} (h : RowD N d) : ∃ r, d = rwD r ∧ RwOk N r := by
  obtain ⟨x, y, f, rfl, h1, h2, h3, h4, h5⟩ := h
  refine ⟨⟨x.toNat, y.toNat, f⟩, ?_, ?_⟩
  · have e1 : ((x.toNat : Nat) : Int) = x := by omega
    have e2 : ((y.toNat : Nat) : Int) = y := by omega
    simp [rwD, e1, e2]
  · refine ⟨?_, ?_, ?_⟩ <;> simp <;> omega
theorem rowsD_rw {N : Nat} : ∀ {ds : List D}, (∀ d ∈ ds, RowD N d) → ∃ rs : List Rw, ds = rs.map rwD ∧ ∀ r ∈ rs, RwOk N r
  | [], _ => ⟨[], rfl, by simp⟩
  | d :: ds, h => by
    obtain ⟨r, rfl, hr⟩ := rowD_rw (h d (by simp))
    obtain ⟨rs, rfl, hrs⟩ := rowsD_rw fun d hd => h d (List.mem_cons_of_mem _ hd)
    refine ⟨r :: rs, rfl, fun r' hr' => ?_⟩
    rcases List.mem_cons.mp hr' with rfl | hr'
    · exact hr
    · exact hrs r' hr'
theorem is_triple_ok (r : Rw) : m_is_triple [rwD r] st = .ok (.bl true) st := by
  simp [m_is_triple_eq, rwD]
theorem is_flag_ok (f : Bool) : m_is_flag [.bl f] st = .ok (.bl true) st := by
  simp [m_is_flag_eq]
theorem rw0 (r : Rw) : getD (rwD r) (.int 0) st = .ok (.int r.x) st := getD_at (k := 0) rfl
theorem rw1 (r : Rw) : getD (rwD r) (.int 1) st = .ok (.int r.y) st := getD_at (k := 1) rfl
theorem rw2 (r : Rw) : getD (rwD r) (.int 2) st = .ok (.bl r.f) st := getD_at (k := 2) rfl
theorem is_row_ok {N : Nat} {r : Rw} (h : RwOk N r) : m_is_row [.int N, rwD r] st = .ok (.bl true) st := by
  obtain ⟨h1, h2, h3⟩ := h
  have a1 : (r.x : Int) ≤ (N : Int) - 1 := by omega
  have a2 : (r.y : Int) ≤ (N : Int) - 1 := by omega
  have a3 : (if (r.x : Int) - (r.y : Int) < 0 then -((r.x : Int) - (r.y : Int)) else (r.x : Int) - (r.y : Int)) = 1 := by
    split <;> omega
  simp [m_is_row_eq, is_triple_ok, rw0, rw1, rw2, is_within_ok, a1, a2, a3, is_flag_ok]
theorem enum_get : ∀ {ds : List D} {k i : Nat} {d : D}, (enumFrom k ds)[i]? = some d → ∃ x, d = .tup [.int (k + i : Nat), x] ∧ ds[i]? = some x
  | [], k, i, d, h => by simp [enumFrom] at h
  | x :: ds, k, i, d, h => by
    rw [enumFrom] at h
    cases i with
    | zero => simp at h; exact ⟨x, by simp [← h], rfl⟩
    | succ i =>
      rw [List.getElem?_cons_succ] at h
      obtain ⟨y, e, hy⟩ := enum_get h
      exact ⟨y, by rw [e]; simp; omega, by simpa using hy⟩
theorem first_bad_ok {N : Nat} {rs : List Rw} (h : ∀ r ∈ rs, RwOk N r) : m_first_bad [.int N, .tup (rs.map rwD)] st = .ok .non st := by
  simp [m_first_bad_eq]
  generalize hq : loopF _ _ _ _ _ _ = r
  obtain ⟨e, s, rfl, o2, o3, rfl, rfl⟩ := loopF_next hq (fun i env s => ∃ o2 o3, env = [some (.int N), some (.tup (rs.map rwD)), o2, o3] ∧ s = st) ⟨none, none, rfl, rfl⟩ fun i d env s hI hd => by
    obtain ⟨o2, o3, rfl, rfl⟩ := hI
    obtain ⟨x, rfl, hx⟩ := enum_get hd
    obtain ⟨r, hr, rfl⟩ := List.mem_map.mp (List.mem_of_getElem? hx)
    refine ⟨[some (.int N), some (.tup (rs.map rwD)), some (.int (0 + i : Nat)), some (rwD r)], by simp, _, s, .inl (by simp [is_row_ok (h r hr)]; exact ⟨rfl, rfl⟩), by simp, _, _, rfl, rfl⟩
  simp
def logO (N : Nat) (rs : List Rw) : AO := .ins "Log" [("offices", .int N), ("rows", .tup (rs.map rwD))]
theorem log_init {N : Nat} {rs : List Rw} (h1 : 1 ≤ N) (h12 : N ≤ 12) (hl : rs.length ≤ 60) (h : ∀ r ∈ rs, RwOk N r) :
    m_Log__init [.ref st.length, .int N, .tup (rs.map rwD)] (st ++ [.ins "Log" []]) = .ok .non (st ++ [logO N rs]) := by
  have a1 : (1 : Int) ≤ N := by omega
  have a2 : (N : Int) ≤ 12 := by omega
  have a3 : ((60 : Int) < (rs.length : Int)) = False := by simp; omega
  have hne : ¬ (Str.ofString "offices") = (Str.ofString "rows") := by decide +kernel
  simp [m_Log__init_eq, is_within_ok, a1, a2, a3, first_bad_ok h, putFD, logO, hne]
theorem log_make {N : Nat} {rs : List Rw} {fr : LF} {env : AEnv} (hf : fr env st = .ok [.int N, .tup (rs.map rwD)] st) (h1 : 1 ≤ N) (h12 : N ≤ 12) (hl : rs.length ≤ 60) (h : ∀ r ∈ rs, RwOk N r) :
    eMake "Log" m_Log__init fr env st = .ok (.ref st.length) (st ++ [logO N rs]) := by
  have hc : ∀ (rs : List Rw) n, closeds n (rs.map rwD) = true := by
    intro rs n
    induction rs with
    | nil => rfl
    | cons r rs ih => simp [closeds, closed, rwD, ih]
  unfold eMake
  rw [hf, R.bind_ok, log_init h1 h12 hl h]
  unfold mkR gcR
  simp [trim_app, closed, logO, closedO, closedF, hc]
/-! ### sheets led through a row -/
def cpL (xs : List Int) (r : Rw) : List Int := xs.set r.x (xs.getD r.y 0)
def RowS (N : Nat) (xs : List Int) : Prop := xs.length = N ∧ ris ((N : Int) - 1) 0 xs
theorem cpL_ok {N : Nat} {xs : List Int} {r : Rw} (h : RowS N xs) (hr : RwOk N r) : RowS N (cpL xs r) := by
  obtain ⟨hl, hs⟩ := h
  obtain ⟨h1, h2, h3⟩ := hr
  obtain ⟨hp, hb⟩ := ris_all hs
  have ey : xs.getD r.y 0 = xs[r.y] := by rw [List.getD_eq_getElem?_getD, List.getElem?_eq_getElem (by omega)]; rfl
  have ec : cpL xs r = xs.set r.x xs[r.y] := by unfold cpL; rw [ey]
  rw [ec]
  refine ⟨by simp [hl], ris_of ?_ fun z hz => ?_⟩
  · rw [List.pairwise_iff_getElem] at hp ⊢
    intro i j hi hj hij
    simp only [List.length_set] at hi hj
    rw [List.getElem_set, List.getElem_set]
    split
    · rename_i e
      rw [if_neg (by omega)]
      rcases Nat.lt_or_ge r.y j with q | q
      · exact hp r.y j (by omega) hj q
      · have : r.y = j := by omega
        subst this
        exact Int.le_refl _
    · split
      · rcases Nat.lt_or_ge i r.y with q | q
        · exact hp i r.y hi (by omega) q
        · have : i = r.y := by omega
          subst this
          exact Int.le_refl _
      · exact hp i j hi hj hij
  · rcases List.mem_or_eq_of_mem_set hz with hz | rfl
    · exact hb z hz
    · exact hb _ (List.getElem_mem _)
theorem cut_hi (ds : List D) (k : Nat) : cutD ds none (some (k : Int)) = ds.take k := by
  unfold cutD
  rw [HT.sIx_nat, HT.sIx_none]
  simp only [List.drop_zero, Nat.sub_zero]
  rw [List.take_eq_take_iff]
  omega
theorem cut_lo (ds : List D) (k : Nat) : cutD ds (some (k : Int)) none = ds.drop k := by
  unfold cutD
  rw [HT.sIx_nat, HT.sIx_none]
  by_cases h : k ≤ ds.length
  · rw [Nat.min_eq_left h, List.take_of_length_le (by simp)]
  · rw [Nat.min_eq_right (by omega), List.drop_of_length_le (Nat.le_refl _), List.drop_of_length_le (by omega)]
    simp
end TK

set_option Elab.async false
set_option linter.all false
set_option maxRecDepth 100000
set_option maxHeartbeats 4000000
namespace TK
open PySem PySem.Spec
open PyProof.Rows hiding St
open L2
variable {st : Store} {n p N : Nat} {k : Int} {rs : List Rw}
theorem lkO (a b : D) : List.lookup ("offices" : Str) [(("offices" : Str), a), ("rows", b)] = some a := by
  rw [List.lookup_cons]
  rfl
theorem lkR (a b : D) : List.lookup ("rows" : Str) [(("offices" : Str), a), ("rows", b)] = some b := by
  have h : (("rows" : Str) == ("offices" : Str)) = false := by decide +kernel
  rw [List.lookup_cons, h, List.lookup_cons]
  rfl
theorem log_at (h : st[p]? = some (logO N rs)) : st[p]? = some (.ins "Log" [("offices", .int N), ("rows", .tup (rs.map rwD))]) := h
theorem row_at {i : Nat} {r : Rw} (h : rs[i]? = some r) : getD (.tup (rs.map rwD)) (.int (i : Int)) st = .ok (rwD r) st := getD_at (by rw [List.getElem?_map, h]; rfl)
/-! ### doings -/
def doOk : List Rw → List Bool → Prop
  | [], [] => True
  | r :: rs, f :: fs => (r.f = true → f = true) ∧ doOk rs fs
  | _, _ => False
theorem doOk_len : ∀ {rs : List Rw} {fs : List Bool}, doOk rs fs → fs.length = rs.length
  | [], [], _ => rfl
  | r :: rs, f :: fs, h => by simp [doOk_len h.2]
theorem doOk_snoc {r : Rw} {f : Bool} (hf : r.f = true → f = true) : ∀ {rs : List Rw} {fs : List Bool}, doOk rs fs → doOk (rs ++ [r]) (fs ++ [f])
  | [], [], _ => ⟨hf, trivial⟩
  | a :: rs, b :: fs, h => ⟨h.1, doOk_snoc hf h.2⟩
theorem bl_closed (j : Nat) : ∀ fs : List Bool, closeds j (fs.map D.bl) = true
  | [] => rfl
  | f :: fs => by simp [closeds, closed, bl_closed j fs]
theorem zipD_do : ∀ {rs : List Rw} {fs : List Bool} {d : D}, doOk rs fs → d ∈ zipD (fs.map D.bl) (rs.map rwD) → ∃ f r, d = .tup [.bl f, rwD r] ∧ (r.f = true → f = true)
  | [], [], d, _, h => by simp [zipD] at h
  | r :: rs, f :: fs, d, hd, h => by
    simp only [List.map_cons, zipD, List.mem_cons] at h
    rcases h with rfl | h
    · exact ⟨f, r, rfl, hd.1⟩
    · exact zipD_do hd.2 h
theorem zipD_lenD : ∀ {rs : List Rw} {fs : List Bool}, doOk rs fs → (zipD (fs.map D.bl) (rs.map rwD)).length = rs.length
  | [], [], _ => rfl
  | r :: rs, f :: fs, h => by simp [zipD, zipD_lenD h.2]
theorem zipD_getB : ∀ {rs : List Rw} {fs : List Bool} {i : Nat} {d : D}, doOk rs fs → (zipD (fs.map D.bl) (rs.map rwD))[i]? = some d → ∃ f r, d = .tup [.bl f, rwD r] ∧ rs[i]? = some r ∧ fs[i]? = some f
  | [], [], i, d, _, h => by simp [zipD] at h
  | r :: rs, f :: fs, i, d, hd, h => by
    simp only [List.map_cons, zipD] at h
    cases i with
    | zero => simp at h; exact ⟨f, r, h.symm, rfl, rfl⟩
    | succ i =>
      rw [List.getElem?_cons_succ] at h
      obtain ⟨f', r', e, h1, h2⟩ := zipD_getB hd.2 h
      exact ⟨f', r', e, by simpa using h1, by simpa using h2⟩
/-! ### all sheets of a doing -/
def ledS (N : Nat) (rs : List Rw) (fs : List Bool) : Nat → List Int
  | 0 => (List.range N).map fun (i : Nat) => (i : Int)
  | i + 1 => match rs[i]?, fs[i]? with
    | some r, some f => if f then cpL (ledS N rs fs i) r else ledS N rs fs i
    | _, _ => ledS N rs fs i
theorem ledS_suc {fs : List Bool} {i : Nat} {r : Rw} {f : Bool} (hr : rs[i]? = some r) (hf : fs[i]? = some f) : ledS N rs fs (i + 1) = if f then cpL (ledS N rs fs i) r else ledS N rs fs i := by
  rw [ledS, hr, hf]
theorem begun_row (N : Nat) : RowS N ((List.range N).map fun (i : Nat) => (i : Int)) := by
  refine ⟨by simp, ris_of ?_ fun x hx => ?_⟩
  · rw [List.pairwise_map]
    exact (List.pairwise_lt_range).imp fun h => by omega
  · obtain ⟨i, hi, rfl⟩ := List.mem_map.mp hx
    have := List.mem_range.mp hi
    omega
theorem ledS_row {fs : List Bool} (h : ∀ r ∈ rs, RwOk N r) : ∀ i, RowS N (ledS N rs fs i)
  | 0 => begun_row N
  | i + 1 => by
    have ih := ledS_row (fs := fs) h i
    unfold ledS
    split
    · rename_i r f hr hf
      split
      · exact cpL_ok ih (h r (List.mem_of_getElem? hr))
      · exact ih
    · exact ih
def ledD (N : Nat) (rs : List Rw) (fs : List Bool) (i : Nat) : D := .tup ((ledS N rs fs i).map D.int)
def ledL (N : Nat) (rs : List Rw) (fs : List Bool) (m : Nat) : List D := (List.range m).map (ledD N rs fs)
theorem ledL_suc {fs : List Bool} (m : Nat) : ledL N rs fs (m + 1) = ledL N rs fs m ++ [ledD N rs fs m] := by
  unfold ledL
  rw [List.range_succ, List.map_append]
  rfl
theorem ledL_closed {fs : List Bool} (j : Nat) : ∀ m, closeds j (ledL N rs fs m) = true := by
  have app : ∀ xs ys : List D, closeds j (xs ++ ys) = (closeds j xs && closeds j ys) := by
    intro xs ys
    induction xs with
    | nil => simp [closeds]
    | cons x xs ih => simp [closeds, ih, Bool.and_assoc]
  intro m
  induction m with
  | zero => rfl
  | succ m ih => rw [ledL_suc, app, ih]; simp [closeds, ledD, closed, closeds_ints]
theorem appendG_ref {m : Nat} {xs : List D} {d : D} (h : st[m]? = some (.lst xs)) (hl : xs.length < sizeLine) : appendG (.ref m) [d] st = .ok .non (st.set m (.lst (xs ++ [d]))) := by
  unfold appendG
  simp only [h]
  rw [if_pos hl]
end TK

set_option Elab.async false
set_option linter.all false
set_option maxRecDepth 100000
set_option maxHeartbeats 4000000
namespace TK
open PySem PySem.Spec
open PyProof.Rows hiding St
open L2
/-! # plain data equal to itself; logs however long -/
variable {st : Store} {n p N : Nat} {rs : List Rw}
theorem plain_py : ∀ (k : Nat) (d : D), plainT k d → ∃ p, (∀ f, toPw f d = some p) ∧ p.canLay0 = true ∧ p.depth ≤ k ∧ PyData.eqv p p = true := by
  intro k
  induction k with
  | zero =>
    intro d h
    cases d with
    | bl b => exact ⟨.bool b, fun _ => rfl, rfl, Nat.le_refl _, by cases b <;> rfl⟩
    | int i => exact ⟨.int i, fun _ => rfl, rfl, Nat.le_refl _, by simp [PyData.eqv]⟩
    | _ => exact h.elim
  | succ k ih =>
    intro d h
    cases d with
    | bl b => exact ⟨.bool b, fun _ => rfl, rfl, Nat.zero_le _, by cases b <;> rfl⟩
    | int i => exact ⟨.int i, fun _ => rfl, rfl, Nat.zero_le _, by simp [PyData.eqv]⟩
    | tup ds =>
      replace h : ∀ d ∈ ds, plainT k d := h.2
      have key : ∃ ps, (∀ f, toPws f ds = some ps) ∧ PyData.canLayAll0 ps = true ∧ PyData.depthAll ps ≤ k ∧ PyData.eqvAll ps ps = true := by
        induction ds with
        | nil => exact ⟨[], fun _ => rfl, rfl, Nat.zero_le _, rfl⟩
        | cons d ds ihd =>
          obtain ⟨p, h1, h2, h3, h4⟩ := ih d (h d (by simp))
          obtain ⟨ps, g1, g2, g3, g4⟩ := ihd fun d hd => h d (List.mem_cons_of_mem _ hd)
          refine ⟨p :: ps, fun f => by simp [toPws, h1, g1], ?_, ?_, ?_⟩
          · show (p.canLay0 && PyData.canLayAll0 ps) = true
            rw [h2, g2]; rfl
          · show max p.depth (PyData.depthAll ps) ≤ k
            omega
          · show (PyData.eqv p p && PyData.eqvAll ps ps) = true
            rw [h4, g4]; rfl
      obtain ⟨ps, g1, g2, g3, g4⟩ := key
      refine ⟨.tuple ps, fun f => by simp [toPw, g1], g2, ?_, g4⟩
      show PyData.depthAll ps + 1 ≤ k + 1
      omega
    | _ => exact h.elim
theorem eqP_refl {d : D} {k : Nat} (h : plainT k d) (hk : k ≤ 60) : eqP d d st = some true := by
  obtain ⟨p, h1, h2, h3, h4⟩ := plain_py k d h
  unfold eqP
  rw [show toP st 50 d = some p from h1 _]
  have hs : SeqAt.shaped p = true := by
    unfold SeqAt.shaped
    rw [h2]
    have : p.depth ≤ 64 := by omega
    simp [this]
  simp only [hs, and_self, if_true]
  rw [h4]
theorem eqD_refl {d : D} {k : Nat} (h : plainT k d) (hk : k ≤ 60) : eqD d d st = .ok (.bl true) st := by
  unfold eqD
  rw [eqP_refl h hk]
theorem neD_refl {d : D} {k : Nat} (h : plainT k d) (hk : k ≤ 60) : neD d d st = .ok (.bl false) st := by
  unfold neD
  rw [eqP_refl h hk]
  rfl
theorem gcR_newO {o : AO} (x : Store) (h : closedO st.length o = true) (k : Nat) (hk : (st ++ x)[k]? = some o) (hk2 : st.length ≤ k) : gcH st (.ok (.ref k) (st ++ x)) = .ok (.ref st.length) (st ++ [o]) := by
  have hc : closed st.length (.ref k) = false := by simp [closed]; omega
  unfold gcH
  rw [hid_eq]
  unfold gcR
  simp [trim_app, hc, hk, h]
theorem rw_closed (j : Nat) : ∀ rs : List Rw, closeds j (rs.map rwD) = true
  | [] => rfl
  | r :: rs => by simp [closeds, closed, rwD, rw_closed j rs]
theorem log_closed (j : Nat) : closedO j (logO N rs) = true := by
  simp [logO, closedO, closedF, closed, rw_closed]
theorem raw_log_ok {d : D} (h1 : 1 ≤ N) (h12 : N ≤ 12) (hd : seqOf d (st ++ [logO N []]) = some (rs.map rwD)) : m_raw_log [.int N, d] st = .ok (.ref st.length) (st ++ [logO N rs]) := by
  have z0 : (0 : Nat) ≤ sizeLine := szl (by omega)
  have hmk := log_make (st := st) (N := N) (rs := []) (fr := lCons (eVar 0) (lCons (eTup lNil) lNil)) (env := [some (.int N), some d, none]) (by simp [okIf_pos z0]) h1 h12 (by simp) (by simp)
  have hne : ¬ (Str.ofString "offices") = (Str.ofString "rows") := by decide +kernel
  have hl : (st ++ [logO N []])[st.length]? = some (.ins "Log" [("offices", .int N), ("rows", .tup [])]) := by simp [logO]
  rw [m_raw_log_eq]
  simp [hmk, hd, hl, putFD, hne]
  rfl
theorem raw_log_gc {d : D} (h1 : 1 ≤ N) (h12 : N ≤ 12) (hd : seqOf d (st ++ [logO N []]) = some (rs.map rwD)) : gcH st (m_raw_log [.int N, d] st) = .ok (.ref st.length) (st ++ [logO N rs]) := by
  rw [raw_log_ok h1 h12 hd]
  exact gcR_newO _ (log_closed _) _ (by simp) (Nat.le_refl _)
theorem flat_rep (k : Nat) : ∀ rs : List Rw, (List.replicate k (rs.map rwD)).flatten = (List.replicate k rs).flatten.map rwD := fun rs => by
  induction k with
  | zero => rfl
  | succ k ih => rw [List.replicate_succ, List.replicate_succ, List.flatten_cons, List.flatten_cons, List.map_append, ih]
end TK

set_option Elab.async false
set_option linter.all false
set_option maxRecDepth 100000
set_option maxHeartbeats 4000000
namespace TK
open PySem PySem.Spec
open PyProof.Rows hiding St
open L2
/-! # the hand that draws; great logs -/
variable {st : Store} {n p N : Nat} {k : Int} {rs : List Rw}
theorem hand_ok (ns : List Int) (hn : ns.length ≤ 1000) : ∃ st', gcH [.rol (ns.map D.int)] (m__law_hand [.ref 0] [.rol (ns.map D.int)]) = .ok (.ref 2) st' ∧ Dice 2 0 st' := by
  obtain ⟨cells, hcl⟩ : ∃ cells : List Int, cells = (cutD (ns.map D.int) none (some 63)).map fun d => absI (intOf d) := ⟨_, rfl⟩
  have hpos : ∀ x ∈ cells, 0 ≤ x := fun x hx => by
    rw [hcl] at hx
    obtain ⟨d, _, rfl⟩ := List.mem_map.mp hx
    unfold absI
    split <;> omega
  have hcn : cells.length ≤ 1000 := by rw [hcl, List.length_map]; exact Nat.le_trans (cutD_lenZ _ _ _) (by simp; omega)
  have hz : (cutD (ns.map D.int) none (some 63)).length ≤ sizeLine := szl (Nat.le_trans (cutD_lenZ _ _ _) (by simp; omega))
  have hz5 : 5 ≤ sizeLine := szl (by omega)
  have e : m__law_hand [.ref 0] [.rol (ns.map D.int)] = .ok (.ref 2) [.rol (ns.map D.int), .lst (cells.map D.int), .lst [.ref 1, .int 0, .int 0, .int (1 + cells.length), .int 0]] := by
    simp [m__law_hand_eq, okIf_pos hz]
    generalize hq : compL _ _ _ _ _ _ _ = r
    have := compL_mapE hq (by simp) (fun _ => true) (fun d => .int (absI (intOf d))) fun d hd => by
      obtain ⟨i, _, rfl⟩ := List.mem_map.mp (cutD_mem hd)
      by_cases hi : i < 0 <;> simp [absI, intOf, hi]
    subst this
    rw [map_true]
    have ec : ((cutD (ns.map D.int) none (some 63)).map fun d => D.int (absI (intOf d))) = cells.map D.int := by rw [hcl, List.map_map]; rfl
    rw [ec]
    simp [okIf_pos hz5]
  refine ⟨[.rol (ns.map D.int), .lst (cells.map D.int), .lst [.ref 1, .int 0, .int 0, .int (1 + cells.length), .int 0]], ?_, ?_⟩
  · rw [e]
    unfold gcH
    rw [hid_eq]
    unfold gcR
    have ht : Trim [AO.rol (ns.map D.int)] [.rol (ns.map D.int), .lst (cells.map D.int), .lst [.ref 1, .int 0, .int 0, .int (1 + cells.length), .int 0]] := trim_app _ [_, _]
    simp only [ht, if_true]
    simp [closed, closedO, closeds]
  · exact ⟨1, cells, 0, 0, 1 + cells.length, 0, rfl, by simp, by omega, rfl, hpos, by omega, by omega, by omega, by omega, by omega, by omega⟩
end TK

set_option Elab.async false
set_option linter.all false
set_option maxRecDepth 100000
set_option maxHeartbeats 4000000
namespace TK
open PySem PySem.Spec
open PyProof.Rows hiding St
open L2
/-! # orders: exchanged row by row -/
variable {st : Store} {n p N : Nat} {k : Int} {rs : List Rw}
def swS (l : List Int) (c : Nat) : List Int := if l.getD (c + 1) 0 < l.getD c 0 then l else (l.set c (l.getD (c + 1) 0)).set (c + 1) (l.getD c 0)
def lowR (r : Rw) : Nat := min r.x r.y
def lftR (r : Rw) : Bool := decide (r.x < r.y)
def ordS (s : Bool) (l : List Int) (rs : List Rw) : List Int := rs.foldl (fun l r => if lftR r == s then swS l (lowR r) else l) l
theorem sw_len (l : List Int) (c : Nat) : (swS l c).length = l.length := by
  unfold swS
  split <;> simp
theorem ord_len (s : Bool) : ∀ (rs : List Rw) (l : List Int), (ordS s l rs).length = l.length
  | [], l => rfl
  | r :: rs, l => by
    unfold ordS
    rw [List.foldl_cons]
    have := ord_len s rs (if lftR r == s then swS l (lowR r) else l)
    unfold ordS at this
    rw [this]
    split
    · exact sw_len _ _
    · rfl
theorem ord_snoc (s : Bool) (l : List Int) (rs : List Rw) (r : Rw) : ordS s l (rs ++ [r]) = if lftR r == s then swS (ordS s l rs) (lowR r) else ordS s l rs := by
  unfold ordS
  rw [List.foldl_append]
  rfl
theorem gD {l : List Int} {i : Nat} (h : i < l.length) : l.getD i 0 = l[i] := by rw [List.getD_eq_getElem?_getD, List.getElem?_eq_getElem h]; rfl
theorem set_same {l : List Int} {c : Nat} (h : c + 1 < l.length) (e : l.getD (c + 1) 0 = l.getD c 0) : (l.set c (l.getD (c + 1) 0)).set (c + 1) (l.getD c 0) = l := by
  rw [← e, gD h]
  have e2 : l[c] = l[c + 1] := by rw [← gD (show c < l.length by omega), ← gD h, e]
  rw [← e2, List.set_getElem_self, e2, List.set_getElem_self]
/-- once more the same exchange -/
theorem sw_twice {l : List Int} {c : Nat} (h : c + 1 < l.length) : swS (swS l c) c = swS l c := by
  by_cases e : l.getD (c + 1) 0 < l.getD c 0
  · have : swS l c = l := by unfold swS; rw [if_pos e]
    rw [this, this]
  · have hs : swS l c = (l.set c (l.getD (c + 1) 0)).set (c + 1) (l.getD c 0) := by unfold swS; rw [if_neg e]
    by_cases e2 : l.getD (c + 1) 0 = l.getD c 0
    · rw [hs, set_same h e2, hs, set_same h e2]
    · have g1 : (swS l c).getD (c + 1) 0 = l.getD c 0 := by
        rw [gD (by rw [sw_len]; exact h)]
        simp only [hs, List.getElem_set_self]
      have g0 : (swS l c).getD c 0 = l.getD (c + 1) 0 := by
        rw [gD (by rw [sw_len]; omega)]
        simp only [hs]
        rw [List.getElem_set_ne (by omega), List.getElem_set_self]
      have hu : ∀ m : List Int, m.getD (c + 1) 0 < m.getD c 0 → swS m c = m := fun m hm => by unfold swS; rw [if_pos hm]
      exact hu _ (by rw [g1, g0]; omega)
theorem set_cut {l : List Int} {c : Nat} (h : c + 1 < l.length) (a b : Int) : ((l.set c b).set (c + 1) a).map D.int = (l.map D.int).take c ++ (.int b :: .int a :: (l.map D.int).drop (c + 1 + 1)) := by
  apply List.ext_getElem?
  intro i
  rw [List.getElem?_map]
  rcases Nat.lt_trichotomy i c with h1 | h1 | h1
  · rw [List.getElem?_set_ne (by omega), List.getElem?_set_ne (by omega), List.getElem?_append_left (by simp; omega), List.getElem?_take_of_lt h1, List.getElem?_map]
  · subst h1
    rw [List.getElem?_set_ne (by omega), List.getElem?_set_self (by omega), List.getElem?_append_right (by simp; omega)]
    have : i - (List.take i (l.map D.int)).length = 0 := by simp; omega
    rw [this]
    rfl
  · rcases Nat.eq_or_lt_of_le h1 with h2 | h2
    · have h2 : i = c + 1 := h2.symm
      subst h2
      rw [List.getElem?_set_self (by simp; omega), List.getElem?_append_right (by simp; omega)]
      have : c + 1 - (List.take c (l.map D.int)).length = 1 := by simp; omega
      rw [this]
      rfl
    · rw [List.getElem?_set_ne (by omega), List.getElem?_set_ne (by omega), List.getElem?_append_right (by simp; omega)]
      have : i - (List.take c (l.map D.int)).length = (i - (c + 1 + 1)) + 1 + 1 := by simp; omega
      rw [this, List.getElem?_cons_succ, List.getElem?_cons_succ, List.getElem?_drop, List.getElem?_map]
      congr 2
      omega
@[simp] theorem max2G_int (i j : Int) (st : Store) : max2G [.int i, .int j] st = .ok (.int (if j > i then j else i)) st := (Eq.refl _).trans rfl
@[simp] theorem min2G_int (i j : Int) (st : Store) : min2G [.int i, .int j] st = .ok (.int (if j < i then j else i)) st := (Eq.refl _).trans rfl
theorem exchanged_ok {l : List Int} {c : Nat} {j : Int} (h : c + 1 < l.length) (hl : l.length ≤ 1000) (hj : j = (c : Int) + 1) : m_exchanged_at [.tup (l.map D.int), .int j] st = .ok (.tup ((swS l c).map D.int)) st := by
  subst hj
  have g1 := getD_i (st := st) (xs := l) (k := c + 1) (j := (c : Int) + 1) (by omega) h
  have g0 := getD_i (st := st) (xs := l) (k := c) (j := (c : Int)) rfl (by omega)
  have ec : (c : Int) + 1 - 1 = (c : Int) := by omega
  have c1 := cut_hi (l.map D.int) c
  have c2 := cut_lo (l.map D.int) (c + 1 + 1)
  have e2 : ((c + 1 + 1 : Nat) : Int) = (c : Int) + 1 + 1 := by omega
  rw [e2] at c2
  have z2 : 2 ≤ sizeLine := szl (by omega)
  have z3 : min c l.length + 2 ≤ sizeLine := szl (by omega)
  have z4 : min c l.length + (l.length - (c + 1 + 1) + 1 + 1) ≤ sizeLine := szl (by omega)
  have z5 : min c l.length + 2 + (l.length - (c + 1 + 1)) ≤ sizeLine := szl (by omega)
  have hc := set_cut h (l.getD c 0) (l.getD (c + 1) 0)
  unfold swS
  revert g0 g1 hc
  generalize l.getD c 0 = a
  generalize l.getD (c + 1) 0 = b
  intro g0 g1 hc
  rw [m_exchanged_at_eq]
  by_cases e : b < a
  · simp [ec, g0, g1, e]
  · simp [ec, g0, g1, e, c1, c2, okIf_pos z2, okIf_pos z3, okIf_pos z4, okIf_pos z5]
    simp at hc
    rw [hc]
theorem is_left_ok (r : Rw) : m_is_left [rwD r] st = .ok (.bl (lftR r)) st := by
  simp [m_is_left_eq, rw0, rw1, lftR]
theorem cut_of_ok {r : Rw} (h : RwOk N r) : m_cut_of [rwD r] st = .ok (.int ((lowR r : Int) + 1)) st := by
  obtain ⟨h1, h2, h3⟩ := h
  have : (if r.x < r.y then (r.y : Int) else r.x) = (lowR r : Int) + 1 := by
    unfold lowR
    split <;> omega
  simp [m_cut_of_eq, rw0, rw1, this]
theorem low_lt {r : Rw} (h : RwOk N r) : lowR r + 1 < N := by
  obtain ⟨h1, h2, h3⟩ := h
  unfold lowR
  omega
theorem order_led_ok {s : Bool} {l : List Int} (hl : l.length = N) (hN : N ≤ 12) (hrs : ∀ r ∈ rs, RwOk N r) :
    m_order_led [.tup (l.map D.int), .tup (rs.map rwD), .bl s] st = .ok (.tup ((ordS s l rs).map D.int)) st := by
  rw [m_order_led_eq]
  simp
  generalize hq : loopF _ _ _ _ _ _ = r
  obtain ⟨e, s', rfl, o4, rfl, rfl⟩ := loopF_next hq (fun i env s' => ∃ o4, env = [some (.tup (l.map D.int)), some (.tup (rs.map rwD)), some (.bl s), some (.tup ((ordS s l (rs.take i)).map D.int)), o4] ∧ s' = st) ⟨none, rfl, rfl⟩ fun i d env s' hI hd => by
    obtain ⟨o4, rfl, rfl⟩ := hI
    rw [List.getElem?_map] at hd
    cases hri : rs[i]? with
    | none => rw [hri] at hd; cases hd
    | some r =>
      rw [hri] at hd
      cases hd
      have et : rs.take (i + 1) = rs.take i ++ [r] := by rw [List.take_add_one, hri]; rfl
      have hr := hrs r (List.mem_of_getElem? hri)
      rw [et, ord_snoc]
      have hlen := ord_len s (rs.take i) l
      revert hlen
      generalize ordS s l (rs.take i) = cur
      intro hlen
      have hlt := low_lt hr
      have ex := exchanged_ok (st := s') (l := cur) (c := lowR r) (j := (lowR r : Int) + 1) (by omega) (by omega) rfl
      refine ⟨_, asgT_name _ _ _, [some (.tup (l.map D.int)), some (.tup (rs.map rwD)), some (.bl s), some (.tup ((if lftR r == s then swS cur (lowR r) else cur).map D.int)), some (rwD r)], s', .inl ?_, by simp, _, rfl, rfl⟩
      by_cases c : (lftR r == s) = true
      · simp [is_left_ok, c, cut_of_ok hr, ex]
      · simp [is_left_ok, c]
  simp
def begS (N : Nat) : List Int := (List.range N).map fun (i : Nat) => (i : Int)
theorem beg_len (N : Nat) : (begS N).length = N := by simp [begS]
theorem beg_rng (N : Nat) : rangeD 0 N = (begS N).map D.int := by
  unfold rangeD begS
  rw [List.map_map]
  refine List.map_congr_left fun i _ => ?_
  simp
theorem rgOkN (hN : N ≤ 1000000) : rgOk 0 (N : Int) := by
  unfold rgOk
  have h2 : (2 : Int) ^ 62 = 4611686018427387904 := by decide
  have h3 : (2 : Nat) ^ 24 = 16777216 := by decide
  rw [h2, h3]
  omega
def ordD (s : Bool) (N : Nat) (rs : List Rw) : D := .tup ((ordS s (begS N) rs).map D.int)
theorem orders_ok (h : st[p]? = some (logO N rs)) (hN : N ≤ 12) (hrs : ∀ r ∈ rs, RwOk N r) : gcH st (m_orders [.ref p] st) = .ok (.tup [ordD true N rs, ordD false N rs]) st := by
  have z2 : 2 ≤ sizeLine := szl (by omega)
  have h1 := order_led_ok (st := st) (s := true) (beg_len N) hN hrs
  have h2 := order_led_ok (st := st) (s := false) (beg_len N) hN hrs
  have e : m_orders [.ref p] st = .ok (.tup [ordD true N rs, ordD false N rs]) st := by
    rw [m_orders_eq]
    simp [log_at h, lkO, lkR, okIf_pos (rgOkN (N := N) (by omega)), beg_rng, okIf_pos z2, h1, h2, ordD]
  rw [e]
  exact gcR_same (by simp [closed, closeds, ordD, closeds_ints])
theorem sw_law {l : List Int} {c : Nat} (h : c + 1 < l.length) : (if l.getD c 0 < l.getD (c + 1) 0 then (l.set c (l.getD (c + 1) 0)).set (c + 1) (l.getD c 0) else l) = swS l c := by
  unfold swS
  by_cases e : l.getD (c + 1) 0 < l.getD c 0
  · rw [if_pos e, if_neg (by omega)]
  · by_cases e2 : l.getD (c + 1) 0 = l.getD c 0
    · rw [if_neg (by omega), if_neg e, set_same h e2]
    · rw [if_pos (by omega), if_neg e]
end TK

set_option Elab.async false
set_option linter.all false
set_option maxRecDepth 100000
set_option maxHeartbeats 4000000
namespace TK
open PySem PySem.Spec
open PyProof.Rows hiding St
open L2
/-! # posts: where they stand, what they cost -/
variable {st : Store} {n p N : Nat} {k : Int} {rs : List Rw} {s : Bool}
theorem side_in (s : Bool) : inV (flV (sdD s)) [flV (sdD true), flV (sdD false)] = true := by cases s <;> decide +kernel
/-- the cut where a post of a side may not stand, -1 for none -/
def barI (s : Bool) (r : Rw) : Int := if lftR r == s then (lowR r : Int) + 1 else -1
def barD (s : Bool) (r : Rw) : D := if lftR r == s then .int ((lowR r : Int) + 1) else .non
def stepI (s : Bool) (a b : Int) : Int := if s then (if b - a > 0 then b - a else 0) else (if a - b > 0 then a - b else 0)
def costR (s : Bool) : Int → List Int → Int
  | _, [] => 0
  | a, c :: cs => stepI s a c + costR s c cs
theorem sum_ints (l : List Int) (st : Store) : sumG (l.map D.int) st = .ok (.int l.sum) st := by
  unfold sumG
  rw [intsOf_ints]
theorem cut_but (ds : List D) : cutD ds none (some (-1)) = ds.dropLast := by
  have e : HT.sIx ds.length ds.length (some (-1)) = ds.length - 1 := by
    show (if (-1 : Int) < 0 then ((-1 : Int) + (ds.length : Int)).toNat else min (-1 : Int).toNat ds.length) = _
    rw [if_pos (by decide)]
    omega
  unfold cutD
  rw [e, HT.sIx_none, List.dropLast_eq_take]
  simp
def stepCell (s : Bool) (d : D) : D := match d with
  | .tup [.int a, .int b] => .int (stepI s a b)
  | d => d
theorem zip_steps (s : Bool) : ∀ (L : List Int) (a : Int), (zipD ((a :: L).dropLast.map D.int) (L.map D.int)).length = L.length ∧
    (∀ d ∈ zipD ((a :: L).dropLast.map D.int) (L.map D.int), ∃ x y, d = .tup [.int x, .int y]) ∧ ∃ l : List Int, (zipD ((a :: L).dropLast.map D.int) (L.map D.int)).map (stepCell s) = l.map D.int ∧ l.sum = costR s a L
  | [], a => ⟨rfl, by simp [zipD], [], rfl, rfl⟩
  | c :: L, a => by
    obtain ⟨h1, h2, l, h3, h4⟩ := zip_steps s L c
    have e : zipD ((a :: c :: L).dropLast.map D.int) ((c :: L).map D.int) = .tup [.int a, .int c] :: zipD ((c :: L).dropLast.map D.int) (L.map D.int) := by
      rw [List.dropLast_cons_of_ne_nil (by simp)]
      rfl
    rw [e]
    refine ⟨by rw [List.length_cons, h1, List.length_cons], fun d hd => ?_, stepI s a c :: l, ?_, ?_⟩
    · rcases List.mem_cons.mp hd with rfl | hd
      · exact ⟨_, _, rfl⟩
      · exact h2 d hd
    · rw [List.map_cons, h3]; rfl
    · rw [List.sum_cons, h4]; rfl
/-- a post -/
def postD (a : Int) (cs : List Int) (z : Int) : D := .tup [.int a, .tup (cs.map D.int), .int z]
theorem po0 (a : Int) (cs : List Int) (z : Int) : getD (postD a cs z) (.int 0) st = .ok (.int a) st := getD_at (k := 0) rfl
theorem po1 (a : Int) (cs : List Int) (z : Int) : getD (postD a cs z) (.int 1) st = .ok (.tup (cs.map D.int)) st := getD_at (k := 1) rfl
theorem po2 (a : Int) (cs : List Int) (z : Int) : getD (postD a cs z) (.int 2) st = .ok (.int z) st := getD_at (k := 2) rfl
/-! ### where they stand -/
def wellB (s : Bool) (rs : List Rw) (cs : List Int) : Bool := (List.range rs.length).all fun i => decide (cs.getD i 0 ≠ barI s (rs.getD i ⟨0, 0, false⟩))
theorem zip_post : ∀ {rs : List Rw} {cs : List Int}, cs.length = rs.length → zipD (cs.map D.int) (rs.map rwD) = (List.range rs.length).map (fun i => .tup [.int (cs.getD i 0), rwD (rs.getD i ⟨0, 0, false⟩)])
  | [], [], _ => rfl
  | r :: rs, c :: cs, h => by
    have ih := zip_post (rs := rs) (cs := cs) (by simpa using h)
    rw [List.map_cons, List.map_cons, zipD, ih, List.length_cons, List.range_succ_eq_map, List.map_cons, List.map_map]
    rfl
  | [], _ :: _, h => by simp at h
  | _ :: _, [], h => by simp at h
def wellCell (s : Bool) (d : D) : D := match d with
  | .tup [.int c, .tup [.int x, .int y, .bl f]] => .bl (decide (c ≠ barI s ⟨x.toNat, y.toNat, f⟩))
  | d => d
theorem well_cell (c : Int) (r : Rw) : wellCell s (.tup [.int c, rwD r]) = .bl (decide (c ≠ barI s r)) := by
  unfold wellCell rwD
  simp
theorem neD_non (i : Int) : neD (.int i) .non st = .ok (.bl true) st := by
  unfold neD eqP
  rw [toP_int, show toP st 50 .non = some .none from rfl]
  have h : SeqAt.shaped .none = true := rfl
  simp [shaped_int, h, PyData.eqv]
theorem neD_bar {c : Int} (hc : 0 ≤ c) (r : Rw) : neD (.int c) (barD s r) st = .ok (.bl (decide (c ≠ barI s r))) st := by
  unfold barD barI
  by_cases h : (lftR r == s) = true
  · rw [if_pos h, if_pos h]
    exact neD_int _ _
  · rw [if_neg h, if_neg h, neD_non]
    have : c ≠ -1 := by omega
    simp [this]
theorem getD_mem {α : Type} {l : List α} {i : Nat} {d : α} (h : i < l.length) : l.getD i d ∈ l := by
  rw [List.getD_eq_getElem?_getD, List.getElem?_eq_getElem h]
  exact List.getElem_mem h
def PostR (N : Nat) (rs : List Rw) (a : Int) (cs : List Int) (z : Int) : Prop := 0 ≤ a ∧ a ≤ N ∧ 0 ≤ z ∧ z ≤ N ∧ cs.length = rs.length ∧ ∀ c ∈ cs, 0 ≤ c ∧ c ≤ N
theorem well_all (s : Bool) (rs : List Rw) (cs : List Int) : allG ((List.range rs.length).map ((wellCell s) ∘ fun i => .tup [.int (cs.getD i 0), rwD (rs.getD i ⟨0, 0, false⟩)])) st = .ok (.bl (wellB s rs cs)) st := by
  have e : (List.range rs.length).map ((wellCell s) ∘ fun i => D.tup [.int (cs.getD i 0), rwD (rs.getD i ⟨0, 0, false⟩)]) = ((List.range rs.length).map fun i => decide (cs.getD i 0 ≠ barI s (rs.getD i ⟨0, 0, false⟩))).map D.bl := by
    rw [List.map_map]
    refine List.map_congr_left fun i _ => ?_
    exact well_cell _ _
  rw [e]
  unfold allG
  rw [show ∀ l : List Bool, boolsOf (l.map D.bl) = some l from fun l => by
    induction l with
    | nil => rfl
    | cons b l ih => simp [boolsOf, ih]]
  unfold wellB
  simp [List.all_map]
end TK

set_option Elab.async false
set_option linter.all false
set_option maxRecDepth 100000
set_option maxHeartbeats 4000000
namespace TK
open PySem PySem.Spec
open PyProof.Rows hiding St
open L2
/-! # least costs: the plain law -/
theorem step_nn (s : Bool) (a b : Int) : 0 ≤ stepI s a b := by
  unfold stepI
  cases s <;> simp <;> split <;> omega
theorem step_self (s : Bool) (a : Int) : stepI s a a = 0 := by
  unfold stepI
  cases s <;> simp
theorem step_tri (s : Bool) (a b c : Int) : stepI s a c ≤ stepI s a b + stepI s b c := by
  unfold stepI
  cases s <;> simp <;> repeat' split
  all_goals omega
theorem step_le (s : Bool) {N : Nat} {a b : Int} (ha : 0 ≤ a) (ha' : a ≤ N) (hb : 0 ≤ b) (hb' : b ≤ N) : stepI s a b ≤ N := by
  unfold stepI
  cases s <;> simp <;> split <;> omega
/-- the least of the known costs and a walk -/
def knownL (s : Bool) (N : Nat) (C : Nat → Option Int) (g : Nat) : List Int := (List.range (N + 1)).filterMap fun c => (C c).map fun v => v + stepI s c g
def wk (s : Bool) (N : Nat) (C : Nat → Option Int) (g : Nat) : Int := minI (knownL s N C g)
theorem known_mem {s : Bool} {N : Nat} {C : Nat → Option Int} {g : Nat} {x : Int} : x ∈ knownL s N C g ↔ ∃ c v, c ≤ N ∧ C c = some v ∧ x = v + stepI s c g := by
  unfold knownL
  rw [List.mem_filterMap]
  constructor
  · rintro ⟨c, hc, h⟩
    have hc := List.mem_range.mp hc
    cases q : C c with
    | none => rw [q] at h; cases h
    | some v => rw [q] at h; cases h; exact ⟨c, v, by omega, q, rfl⟩
  · rintro ⟨c, v, hc, h, rfl⟩
    exact ⟨c, List.mem_range.mpr (by omega), by rw [h]; rfl⟩
theorem wk_le {s : Bool} {N : Nat} {C : Nat → Option Int} {g c : Nat} {v : Int} (hc : c ≤ N) (h : C c = some v) : wk s N C g ≤ v + stepI s c g := minI_le _ _ (known_mem.mpr ⟨c, v, hc, h, rfl⟩)
theorem wk_ex {s : Bool} {N : Nat} {C : Nat → Option Int} (hx : ∃ c v, c ≤ N ∧ C c = some v) (g : Nat) : ∃ c v, c ≤ N ∧ C c = some v ∧ wk s N C g = v + stepI s c g := by
  obtain ⟨c, v, hc, hv⟩ := hx
  exact known_mem.mp (minI_mem _ (fun z => by
    have := known_mem (s := s) (g := g).mpr ⟨c, v, hc, hv, rfl⟩
    rw [z] at this; cases this))
/-- behind a walk and a row, before the next walk -/
def barC (s : Bool) (r : Rw) (V : Nat → Int) (c : Nat) : Option Int := if (c : Int) = barI s r then none else some (V c)
def stepV (s : Bool) (N : Nat) (V : Nat → Int) (r : Rw) (g : Nat) : Int := wk s N (barC s r V) g
def Vf (s : Bool) (N a : Nat) (rs : List Rw) : Nat → Int := rs.foldl (stepV s N) fun g => stepI s a g
theorem V_snoc (s : Bool) (N a : Nat) (rs : List Rw) (r : Rw) : Vf s N a (rs ++ [r]) = stepV s N (Vf s N a rs) r := by
  unfold Vf
  rw [List.foldl_append]
  rfl
theorem V_nil (s : Bool) (N a g : Nat) : Vf s N a [] g = stepI s a g := rfl
theorem bar0 (s : Bool) (r : Rw) : ¬ ((0 : Nat) : Int) = barI s r := by
  unfold barI
  split <;> omega
theorem barC_ex (s : Bool) (N : Nat) (r : Rw) (V : Nat → Int) : ∃ c v, c ≤ N ∧ barC s r V c = some v := ⟨0, V 0, Nat.zero_le _, by unfold barC; rw [if_neg (bar0 s r)]⟩
theorem barC_some {s : Bool} {r : Rw} {V : Nat → Int} {c : Nat} {v : Int} (h : barC s r V c = some v) : v = V c ∧ ¬ (c : Int) = barI s r := by
  unfold barC at h
  split at h
  · cases h
  · rename_i hc; cases h; exact ⟨rfl, hc⟩
theorem stepV_le {s : Bool} {N : Nat} {r : Rw} {V : Nat → Int} {c g : Nat} (hc : c ≤ N) (hb : ¬ (c : Int) = barI s r) : stepV s N V r g ≤ V c + stepI s c g := wk_le hc (by unfold barC; rw [if_neg hb])
theorem stepV_ex (s : Bool) (N : Nat) (r : Rw) (V : Nat → Int) (g : Nat) : ∃ c, c ≤ N ∧ ¬ (c : Int) = barI s r ∧ stepV s N V r g = V c + stepI s c g := by
  obtain ⟨c, v, hc, hv, e⟩ := wk_ex (s := s) (barC_ex s N r V) g
  obtain ⟨rfl, hb⟩ := barC_some hv
  exact ⟨c, hc, hb, e⟩
/-- a walk more is no gain -/
def Tri (s : Bool) (N : Nat) (V : Nat → Int) : Prop := ∀ c g, c ≤ N → V g ≤ V c + stepI s c g
theorem stepV_tri {s : Bool} {N : Nat} {r : Rw} {V : Nat → Int} : Tri s N (stepV s N V r) := fun c g hc => by
  obtain ⟨d, hd, hb, e⟩ := stepV_ex s N r V c
  have h1 := stepV_le (V := V) (g := g) hd hb
  have h2 := step_tri s d c g
  omega
theorem V_tri (s : Bool) (N a : Nat) (rs : List Rw) : Tri s N (Vf s N a rs) := by
  rcases List.eq_nil_or_concat rs with rfl | ⟨L, b, rfl⟩
  · intro c g hc
    exact step_tri s a c g
  · rw [List.concat_eq_append, V_snoc]
    exact stepV_tri
theorem rev_ind {P : List Rw → Prop} (h0 : P []) (h1 : ∀ rs r, P rs → P (rs ++ [r])) : ∀ rs, P rs := fun rs => by
  have : ∀ n, ∀ rs : List Rw, rs.length = n → P rs := by
    intro n
    induction n with
    | zero =>
      intro rs h
      rw [List.eq_nil_of_length_eq_zero h]
      exact h0
    | succ n ih =>
      intro rs h
      rcases List.eq_nil_or_concat rs with rfl | ⟨L, b, rfl⟩
      · simp at h
      · rw [List.concat_eq_append] at h ⊢
        exact h1 L b (ih L (by simpa using h))
  exact this _ rs rfl
theorem V_low (s : Bool) (N a : Nat) (rs : List Rw) : ∀ g : Nat, stepI s a g ≤ Vf s N a rs g := by
  refine rev_ind (P := fun rs => ∀ g : Nat, stepI s a g ≤ Vf s N a rs g) (fun g => Int.le_refl _) (fun rs r ih g => ?_) rs
  rw [V_snoc]
  obtain ⟨c, hc, hb, e⟩ := stepV_ex s N r (Vf s N a rs) g
  have := ih c
  have := step_tri s a c g
  omega
theorem V_nn (s : Bool) (N a : Nat) (rs : List Rw) (g : Nat) : 0 ≤ Vf s N a rs g := Int.le_trans (step_nn s a g) (V_low s N a rs g)
theorem V_up {s : Bool} {N a : Nat} (ha : a ≤ N) (rs : List Rw) : ∀ g, g ≤ N → Vf s N a rs g ≤ N * (rs.length + 1) := by
  refine rev_ind (P := fun rs => ∀ g, g ≤ N → Vf s N a rs g ≤ N * (rs.length + 1)) (fun g hg => ?_) (fun rs r ih g hg => ?_) rs
  · have := step_le s (N := N) (a := a) (b := g) (by omega) (by omega) (by omega) (by omega)
    rw [V_nil]
    simp
    exact this
  · rw [V_snoc]
    have h1 := stepV_le (s := s) (N := N) (r := r) (V := Vf s N a rs) (c := 0) (g := g) (Nat.zero_le _) (bar0 s r)
    have h2 := ih 0 (Nat.zero_le _)
    have h3 := step_le s (N := N) (a := ((0 : Nat) : Int)) (b := g) (by omega) (by omega) (by omega) (by omega)
    have e : ((N : Int) * (((rs ++ [r]).length : Nat) + 1)) = N * (rs.length + 1) + N := by
      simp only [List.length_append, List.length_cons, List.length_nil, Int.natCast_add, Int.mul_add]
      simp
    rw [e]
    omega
/-- rows of the other way mean nothing -/
theorem stepV_free {s : Bool} {N : Nat} {r : Rw} {V : Nat → Int} (h : barI s r = -1) (hT : Tri s N V) {g : Nat} (hg : g ≤ N) : stepV s N V r g = V g := by
  have h1 := stepV_le (V := V) (N := N) (g := g) (s := s) (r := r) hg (by omega)
  rw [step_self] at h1
  obtain ⟨c, hc, hb, e⟩ := stepV_ex s N r V g
  have h2 := hT c g hc
  omega
theorem stepV_congr {s : Bool} {N : Nat} {r : Rw} {V W : Nat → Int} (h : ∀ c, c ≤ N → V c = W c) (g : Nat) : stepV s N V r g = stepV s N W r g := by
  obtain ⟨c, hc, hb, e⟩ := stepV_ex s N r V g
  obtain ⟨d, hd, hb', e'⟩ := stepV_ex s N r W g
  have h1 := stepV_le (V := V) (N := N) (g := g) (s := s) (r := r) hd hb'
  have h2 := stepV_le (V := W) (N := N) (g := g) (s := s) (r := r) hc hb
  have h3 := h c hc
  have h4 := h d hd
  omega
def ownR (s : Bool) (r : Rw) : Bool := lftR r == s
theorem bar_other {s : Bool} {r : Rw} (h : ¬ ownR s r = true) : barI s r = -1 := by
  unfold barI
  rw [if_neg (by exact h)]
theorem V_own (s : Bool) (N a : Nat) (rs : List Rw) : ∀ g, g ≤ N → Vf s N a (rs.filter (ownR s)) g = Vf s N a rs g := by
  refine rev_ind (P := fun rs => ∀ g, g ≤ N → Vf s N a (rs.filter (ownR s)) g = Vf s N a rs g) (fun g _ => rfl) (fun rs r ih g hg => ?_) rs
  rw [List.filter_append, V_snoc, List.filter_cons]
  by_cases c : ownR s r = true
  · rw [if_pos c, List.filter_nil, V_snoc]
    exact stepV_congr ih g
  · rw [if_neg c, List.filter_nil, List.append_nil, ih g hg, stepV_free (bar_other c) (V_tri s N a rs) hg]
/-- two logs one behind the other -/
def sumL (N : Nat) (V : Nat → Int) (W : Nat → Nat → Int) (g : Nat) : List Int := (List.range (N + 1)).map fun c => V c + W c g
theorem sumL_ne (N : Nat) (V : Nat → Int) (W : Nat → Nat → Int) (g : Nat) : sumL N V W g ≠ [] := fun z => by
  have := congrArg List.length z
  simp [sumL] at this
theorem sumL_le {N : Nat} {V : Nat → Int} {W : Nat → Nat → Int} {g c : Nat} (hc : c ≤ N) : minI (sumL N V W g) ≤ V c + W c g := minI_le _ _ (List.mem_map.mpr ⟨c, List.mem_range.mpr (by omega), rfl⟩)
theorem sumL_ex (N : Nat) (V : Nat → Int) (W : Nat → Nat → Int) (g : Nat) : ∃ c, c ≤ N ∧ minI (sumL N V W g) = V c + W c g := by
  obtain ⟨c, hc, e⟩ := List.mem_map.mp (minI_mem _ (sumL_ne N V W g))
  have := List.mem_range.mp hc
  exact ⟨c, by omega, e.symm⟩
theorem V_behind (s : Bool) (N a : Nat) (rs qs : List Rw) : ∀ g, g ≤ N → Vf s N a (rs ++ qs) g = minI (sumL N (Vf s N a rs) (fun c => Vf s N c qs) g) := by
  refine rev_ind (P := fun qs => ∀ g, g ≤ N → Vf s N a (rs ++ qs) g = minI (sumL N (Vf s N a rs) (fun c => Vf s N c qs) g)) (fun g hg => ?_) (fun qs r ih g hg => ?_) qs
  · rw [List.append_nil]
    obtain ⟨c, hc, e⟩ := sumL_ex N (Vf s N a rs) (fun c => Vf s N c []) g
    have h1 := sumL_le (V := Vf s N a rs) (W := fun c => Vf s N c []) (g := g) hg
    have h2 := V_tri s N a rs c g hc
    simp only [V_nil] at e h1
    rw [step_self] at h1
    omega
  · rw [← List.append_assoc, V_snoc]
    obtain ⟨c, hc, hb, e⟩ := stepV_ex s N r (Vf s N a (rs ++ qs)) g
    obtain ⟨d, hd, e2⟩ := sumL_ex N (Vf s N a rs) (fun c => Vf s N c qs) c
    obtain ⟨f, hf, e3⟩ := sumL_ex N (Vf s N a rs) (fun c => Vf s N c (qs ++ [r])) g
    have h1 := sumL_le (V := Vf s N a rs) (W := fun c => Vf s N c (qs ++ [r])) (g := g) hd
    simp only [V_snoc] at h1 e3
    have h2 := stepV_le (V := Vf s N d qs) (N := N) (g := g) (s := s) (r := r) hc hb
    obtain ⟨c', hc', hb', e4⟩ := stepV_ex s N r (Vf s N f qs) g
    have h3 := stepV_le (V := Vf s N a (rs ++ qs)) (N := N) (g := g) (s := s) (r := r) hc' hb'
    have h4 := sumL_le (V := Vf s N a rs) (W := fun c => Vf s N c qs) (g := c') hf
    have h5 := ih c hc
    have h6 := ih c' hc'
    simp only [V_snoc]
    omega
end TK

set_option Elab.async false
set_option linter.all false
set_option maxRecDepth 100000
set_option maxHeartbeats 4000000
namespace TK
open PySem PySem.Spec
open PyProof.Rows hiding St
open L2
/-! # prices counted by orders -/
def hitB (s : Bool) (a x : Int) : Bool := if s then decide (a ≤ x) else decide (x < a)
def hitI (s : Bool) (a x : Int) : Int := if hitB s a x then 1 else 0
def preP (s : Bool) (l : List Int) (a : Int) : Nat → Int
  | 0 => 0
  | b + 1 => preP s l a b + hitI s a (l.getD b 0)
def cntS (s : Bool) (l : List Int) (a : Int) (b : Nat) : Int := if s then preP s l a b else preP s l a l.length - preP s l a b
theorem hit_cases (s : Bool) (a x : Int) : hitI s a x = 0 ∨ hitI s a x = 1 := by
  unfold hitI
  split
  · exact .inr rfl
  · exact .inl rfl
theorem pre_congr {s : Bool} {l m : List Int} {a : Int} : ∀ b : Nat, (∀ i, i < b → l.getD i 0 = m.getD i 0) → preP s l a b = preP s m a b
  | 0, _ => rfl
  | b + 1, h => by
    unfold preP
    rw [pre_congr b fun i hi => h i (by omega), h b (by omega)]
theorem sw_get {l : List Int} {c i : Nat} (h : c + 1 < l.length) (h1 : i ≠ c) (h2 : i ≠ c + 1) : (swS l c).getD i 0 = l.getD i 0 := by
  unfold swS
  split
  · rfl
  · rw [List.getD_eq_getElem?_getD, List.getElem?_set_ne (by omega), List.getElem?_set_ne (by omega), List.getD_eq_getElem?_getD]
theorem sw_lo {l : List Int} {c : Nat} (h : c + 1 < l.length) : (swS l c).getD c 0 = max (l.getD c 0) (l.getD (c + 1) 0) := by
  unfold swS
  split
  · rw [Int.max_eq_left (by omega)]
  · rw [List.getD_eq_getElem?_getD, List.getElem?_set_ne (by omega), List.getElem?_set_self (by omega), Option.getD_some, Int.max_eq_right (by omega)]
theorem sw_hi {l : List Int} {c : Nat} (h : c + 1 < l.length) : (swS l c).getD (c + 1) 0 = min (l.getD c 0) (l.getD (c + 1) 0) := by
  unfold swS
  split
  · rw [Int.min_eq_right (by omega)]
  · rw [List.getD_eq_getElem?_getD, List.getElem?_set_self (by simp; omega), Option.getD_some, Int.min_eq_left (by omega)]
theorem pre_two (s : Bool) (l : List Int) (a : Int) (c : Nat) : preP s l a (c + 2) = preP s l a c + hitI s a (l.getD c 0) + hitI s a (l.getD (c + 1) 0) := rfl
theorem hit_mm (s : Bool) (a x y : Int) : hitI s a (max x y) + hitI s a (min x y) = hitI s a x + hitI s a y := by
  rcases Int.le_total x y with h | h
  · rw [Int.max_eq_right h, Int.min_eq_left h]; omega
  · rw [Int.max_eq_left h, Int.min_eq_right h]
theorem pre_sw {s : Bool} {l : List Int} {a : Int} {c : Nat} (h : c + 1 < l.length) : ∀ b : Nat, b ≠ c + 1 → preP s (swS l c) a b = preP s l a b := by
  intro b hb
  rcases Nat.lt_or_ge b (c + 1) with h1 | h1
  · exact pre_congr b fun i hi => sw_get h (by omega) (by omega)
  · obtain ⟨k, rfl⟩ : ∃ k, b = c + 2 + k := ⟨b - (c + 2), by omega⟩
    clear h1 hb
    induction k with
    | zero =>
      rw [Nat.add_zero, pre_two, pre_two, sw_lo h, sw_hi h, pre_congr c fun i hi => sw_get h (by omega) (by omega)]
      have := hit_mm s a (l.getD c 0) (l.getD (c + 1) 0)
      omega
    | succ k ih =>
      show preP s (swS l c) a (c + 2 + k) + hitI s a ((swS l c).getD (c + 2 + k) 0) = preP s l a (c + 2 + k) + hitI s a (l.getD (c + 2 + k) 0)
      rw [ih, sw_get h (by omega) (by omega)]
theorem pre_mid {s : Bool} {l : List Int} {a : Int} {c : Nat} (h : c + 1 < l.length) : preP s (swS l c) a (c + 1) = preP s l a c + hitI s a (max (l.getD c 0) (l.getD (c + 1) 0)) := by
  show preP s (swS l c) a c + hitI s a ((swS l c).getD c 0) = _
  rw [pre_sw h c (by omega), sw_lo h]
theorem hit_max_t (a x y : Int) : hitI true a (max x y) = max (hitI true a x) (hitI true a y) := by
  unfold hitI hitB
  simp only [if_true, decide_eq_true_eq]
  repeat' split
  all_goals omega
theorem hit_max_f (a x y : Int) : hitI false a (max x y) = min (hitI false a x) (hitI false a y) := by
  unfold hitI hitB
  simp only [Bool.false_eq_true, if_false, decide_eq_true_eq]
  repeat' split
  all_goals omega
theorem pre_beg_t {N a : Nat} : ∀ b : Nat, b ≤ N → preP true (begS N) a b = stepI true a b
  | 0, _ => by
    unfold preP stepI
    simp
    omega
  | b + 1, hb => by
    have ih := pre_beg_t (N := N) (a := a) b (by omega)
    have g : (begS N).getD b 0 = (b : Int) := by
      unfold begS
      rw [List.getD_eq_getElem?_getD, List.getElem?_map, List.getElem?_range (by omega)]
      rfl
    unfold preP
    rw [ih, g]
    unfold stepI hitI hitB
    simp only [if_true, decide_eq_true_eq]
    repeat' split
    all_goals omega
theorem pre_beg_f {N a : Nat} : ∀ b : Nat, b ≤ N → preP false (begS N) a b = min (a : Int) b
  | 0, _ => by
    unfold preP
    omega
  | b + 1, hb => by
    have ih := pre_beg_f (N := N) (a := a) b (by omega)
    have g : (begS N).getD b 0 = (b : Int) := by
      unfold begS
      rw [List.getD_eq_getElem?_getD, List.getElem?_map, List.getElem?_range (by omega)]
      rfl
    unfold preP
    rw [ih, g]
    unfold hitI hitB
    simp only [Bool.false_eq_true, if_false, decide_eq_true_eq]
    split <;> omega
theorem cnt_beg {s : Bool} {N a b : Nat} (ha : a ≤ N) (hb : b ≤ N) : cntS s (begS N) a b = stepI s a b := by
  unfold cntS
  cases s with
  | true => rw [if_pos rfl, pre_beg_t b hb]
  | false =>
    rw [if_neg (by decide), beg_len, pre_beg_f N (Nat.le_refl _), pre_beg_f b hb]
    unfold stepI
    rw [if_neg (by decide)]
    split <;> omega
/-- the price of a post is what counts in the order -/
theorem V_count {s : Bool} {N a : Nat} (ha : a ≤ N) {rs : List Rw} : (∀ r ∈ rs, RwOk N r) → ∀ b, b ≤ N → Vf s N a rs b = cntS s (ordS s (begS N) rs) a b := by
  refine rev_ind (P := fun rs => (∀ r ∈ rs, RwOk N r) → ∀ b, b ≤ N → Vf s N a rs b = cntS s (ordS s (begS N) rs) a b) (fun _ b hb => ?_) (fun rs r ih hrs b hb => ?_) rs
  · rw [V_nil]
    exact (cnt_beg ha hb).symm
  · have ih := ih fun r hr => hrs r (List.mem_append_left _ hr)
    have hr := hrs r (by simp)
    have hlt := low_lt hr
    rw [V_snoc, ord_snoc]
    have hlen := ord_len s rs (begS N)
    rw [beg_len] at hlen
    by_cases ho : (lftR r == s) = true
    · rw [if_pos ho]
      have eb : barI s r = ((lowR r + 1 : Nat) : Int) := by unfold barI; rw [if_pos ho]; omega
      generalize hl : ordS s (begS N) rs = l at ih hlen
      generalize lowR r = c at hlt eb
      have hc : c + 1 < l.length := by omega
      have hT := V_tri s N a rs
      by_cases hg : b = c + 1
      · subst hg
        obtain ⟨d, hd, hbd, e⟩ := stepV_ex s N r (Vf s N a rs) (c + 1)
        have hd' : d ≠ c + 1 := fun z => hbd (by rw [eb, z])
        have u1 := stepV_le (V := Vf s N a rs) (N := N) (g := c + 1) (s := s) (r := r) (c := c) (by omega) (by rw [eb]; omega)
        have u2 := stepV_le (V := Vf s N a rs) (N := N) (g := c + 1) (s := s) (r := r) (c := c + 2) (by omega) (by rw [eb]; omega)
        have t1 := hT d c hd
        have t2 := hT d (c + 2) hd
        have w1 := ih c (by omega)
        have w2 := ih (c + 2) (by omega)
        have m1 := pre_mid (s := s) (a := a) hc
        have m2 := pre_two s l a c
        have m3 := pre_sw (s := s) (a := a) hc l.length (by omega)
        have x1 := hit_cases s a (l.getD c 0)
        have x2 := hit_cases s a (l.getD (c + 1) 0)
        unfold cntS at w1 w2 ⊢
        cases s with
        | true =>
          rw [if_pos rfl] at w1 w2 ⊢
          rw [m1, hit_max_t]
          unfold stepI at e u1 u2 t1 t2
          simp only [if_true] at e u1 u2 t1 t2
          rw [m2] at w2
          revert x1 x2 w1 w2
          generalize hitI true a (l.getD c 0) = x
          generalize hitI true a (l.getD (c + 1) 0) = y
          intro x1 x2 w1 w2
          split at e <;> split at u1 <;> split at u2 <;> split at t1 <;> split at t2 <;> omega
        | false =>
          rw [if_neg (by decide)] at w1 w2 ⊢
          rw [sw_len, m3, m1, hit_max_f]
          unfold stepI at e u1 u2 t1 t2
          simp only [Bool.false_eq_true, if_false] at e u1 u2 t1 t2
          rw [m2] at w2
          revert x1 x2 w1 w2
          generalize hitI false a (l.getD c 0) = x
          generalize hitI false a (l.getD (c + 1) 0) = y
          intro x1 x2 w1 w2
          split at e <;> split at u1 <;> split at u2 <;> split at t1 <;> split at t2 <;> omega
      · have e1 : stepV s N (Vf s N a rs) r b = Vf s N a rs b := by
          have h1 := stepV_le (V := Vf s N a rs) (N := N) (g := b) (s := s) (r := r) hb (by rw [eb]; omega)
          rw [step_self] at h1
          obtain ⟨d, hd, hbd, e⟩ := stepV_ex s N r (Vf s N a rs) b
          have := hT d b hd
          omega
        rw [e1, ih b hb]
        unfold cntS
        rw [sw_len, pre_sw hc b hg, pre_sw hc l.length (by omega)]
    · rw [if_neg ho, stepV_free (bar_other ho) (V_tri s N a rs) hb]
      exact ih b hb
/-! ### as lists -/
theorem pre_take (s : Bool) (l : List Int) (a : Int) : ∀ b : Nat, b ≤ l.length → (((l.take b).filter (hitB s a)).length : Int) = preP s l a b
  | 0, _ => rfl
  | b + 1, h => by
    have ih := pre_take s l a b (by omega)
    have et : l.take (b + 1) = l.take b ++ [l.getD b 0] := by
      rw [List.take_add_one, List.getElem?_eq_getElem (by omega), List.getD_eq_getElem?_getD, List.getElem?_eq_getElem (by omega)]
      rfl
    rw [et, List.filter_append, List.length_append, preP, ← ih, List.filter_cons]
    unfold hitI
    by_cases c : hitB s a (l.getD b 0) = true
    · rw [if_pos c, if_pos c]; simp
    · rw [if_neg c, if_neg c]; simp
theorem pre_all (s : Bool) (l : List Int) (a : Int) (b : Nat) (h : b ≤ l.length) : (((l.drop b).filter (hitB s a)).length : Int) = preP s l a l.length - preP s l a b := by
  have h1 := pre_take s l a b h
  have h2 := pre_take s l a l.length (Nat.le_refl _)
  rw [List.take_length] at h2
  have h3 : (l.filter (hitB s a)).length = ((l.take b).filter (hitB s a)).length + ((l.drop b).filter (hitB s a)).length := by
    rw [← List.length_append, ← List.filter_append, List.take_append_drop]
  omega
end TK

set_option Elab.async false
set_option linter.all false
set_option maxRecDepth 100000
set_option maxHeartbeats 4000000
namespace TK
open PySem PySem.Spec
open PyProof.Rows hiding St
open L2
/-! # orders judged, prices by orders, orders drawn -/
variable {st : Store} {n p q N a : Nat} {k : Int} {rs : List Rw} {s : Bool}
theorem two_at {l : List Int} {c : Nat} (h : c + 1 < l.length) : ∃ A x y B, l = A ++ x :: y :: B ∧ A.length = c :=
  ⟨l.take c, l[c], l[c + 1], l.drop (c + 2), by
    rw [← List.drop_eq_getElem_cons h, ← List.drop_eq_getElem_cons (show c < l.length by omega), List.take_append_drop], by rw [List.length_take]; omega⟩
theorem sw_perm {l : List Int} {c : Nat} (h : c + 1 < l.length) : (swS l c).Perm l := by
  obtain ⟨A, x, y, B, rfl, rfl⟩ := two_at h
  unfold swS
  split
  · exact .refl _
  · have g0 : (A ++ x :: y :: B).getD A.length 0 = x := by rw [List.getD_eq_getElem?_getD, List.getElem?_append_right (Nat.le_refl _)]; simp
    have g1 : (A ++ x :: y :: B).getD (A.length + 1) 0 = y := by rw [List.getD_eq_getElem?_getD, List.getElem?_append_right (by omega)]; simp
    rw [g0, g1, List.set_append_right _ _ (Nat.le_refl _), Nat.sub_self, List.set_cons_zero, List.set_append_right _ _ (by omega)]
    have : A.length + 1 - A.length = 1 := by omega
    rw [this]
    exact .append_left A (.swap _ _ _)
theorem ord_perm {l : List Int} (hl : l.length = N) : (∀ r ∈ rs, RwOk N r) → (ordS s l rs).Perm l := by
  refine rev_ind (P := fun rs => (∀ r ∈ rs, RwOk N r) → (ordS s l rs).Perm l) (fun _ => .refl _) (fun rs r ih hrs => ?_) rs
  have ih := ih fun r hr => hrs r (List.mem_append_left _ hr)
  have hlt := low_lt (hrs r (by simp))
  rw [ord_snoc]
  split
  · exact (sw_perm (by rw [ord_len, hl]; exact hlt)).trans ih
  · exact ih
theorem beg_sorted (N : Nat) : (begS N).Pairwise (· ≤ ·) := by
  unfold begS
  rw [List.pairwise_map]
  exact List.pairwise_lt_range.imp fun h => by omega
theorem sort_perm_beg {l : List Int} (h : l.Perm (begS N)) : sortI l = begS N := sorted_eq ((sortI_perm l).trans h) (sortI_sorted l) (beg_sorted N)
theorem perm_mem {l : List Int} (h : l.Perm (begS N)) : ∀ x ∈ l, 0 ≤ x ∧ x < N := fun x hx => by
  have := h.mem_iff.mp hx
  obtain ⟨i, hi, rfl⟩ := List.mem_map.mp this
  have := List.mem_range.mp hi
  omega
theorem eqD_refs {a b : Nat} {xs ys : List Int} (ha : st[a]? = some (.lst (xs.map D.int))) (hb : st[b]? = some (.lst (ys.map D.int))) : eqD (.ref a) (.ref b) st = .ok (.bl (decide (xs = ys))) st := by
  unfold eqD eqP
  rw [toP_ref ha, toP_ref hb]
  simp only [shaped_list, and_self, if_true]
  show R.ok (D.bl (PyData.eqvAll (pyI xs) (pyI ys))) st = _
  rw [eqv_ints]
theorem cnt_fold (l : List Int) (a b : Nat) (s : Bool) (hb : b ≤ l.length) : (if s then ((((l.take b).filter (hitB s a)).length : Nat) : Int) else ((((l.drop b).filter (hitB s a)).length : Nat) : Int)) = cntS s l a b := by
  unfold cntS
  cases s with
  | true => rw [if_pos rfl, if_pos rfl, pre_take true l a b hb]
  | false => rw [if_neg (by decide), if_neg (by decide), pre_all false l a b hb]
theorem hit_comp {l : List Int} {op : CmpOp} {v a : Nat} {env : AEnv} {c : BF} {s : Bool} (hv : v < env.length) (hc : ∀ (x : Int) (env' : AEnv), env' = env.set v (some (.int x)) → c env' st = .ok (hitB s a x) st) : compL (.name v) c (eVar v) (l.map D.int, []) (l.map D.int) env st = .ok ((l.filter (hitB s a)).map D.int) st := by
  have := compL_mapE (st := st) (env := env) (t := .name v) (c := c) (elt := eVar v) (g := (l.map D.int, [])) (ds := l.map D.int) rfl (by simp) (fun d => match d with
    | .int x => hitB s a x
    | _ => false) (fun d => d) fun d hd => by
    obtain ⟨x, _, rfl⟩ := List.mem_map.mp hd
    have e : (env.set v (some (D.int x)))[v]? = some (some (.int x)) := by rw [List.getElem?_set_self hv]
    exact ⟨_, asgT_name _ _ _, hc x _ rfl, fun _ => by simp [e]⟩
  rw [this, List.map_id']
  congr 1
  exact filter_ints (hitB s a) _ (fun i => rfl) l
theorem erase_map : ∀ (l : List Int) (j : Nat), (l.map D.int).eraseIdx j = (l.eraseIdx j).map D.int
  | [], j => by simp
  | x :: r, 0 => by simp
  | x :: r, j + 1 => by simp [erase_map r j]
theorem cons_erase : ∀ (ps : List Int) (i : Nat) (h : i < ps.length), (ps[i] :: ps.eraseIdx i).Perm ps
  | x :: ps, 0, _ => .refl _
  | x :: ps, i + 1, h => by
    have ih := cons_erase ps i (by simpa using h)
    rw [List.eraseIdx_cons_succ, List.getElem_cons_succ]
    exact (List.Perm.swap _ _ _).trans (.cons x ih)
theorem erase_perm {ps : List Int} {i : Nat} (h : i < ps.length) (fs : List Int) : ((fs ++ [ps[i]]) ++ ps.eraseIdx i).Perm (fs ++ ps) := by
  rw [List.append_assoc]
  refine .append_left fs ?_
  exact cons_erase ps i h
end TK

set_option Elab.async false
set_option linter.all false
set_option maxRecDepth 100000
set_option maxHeartbeats 4000000
namespace TK
open PySem PySem.Spec
open PyProof.Rows hiding St
open L2
/-! # orders as words of exchanges: the plain law -/
variable {N : Nat} {rs : List Rw} {s : Bool}
def wrd (l : List Int) (w : List Nat) : List Int := w.foldl swS l
theorem wrd_app (l : List Int) (w v : List Nat) : wrd l (w ++ v) = wrd (wrd l w) v := List.foldl_append
theorem wrd_len : ∀ (w : List Nat) (l : List Int), (wrd l w).length = l.length
  | [], _ => rfl
  | c :: w, l => by
    show (wrd (swS l c) w).length = _
    rw [wrd_len w, sw_len]
def ownW (s : Bool) (rs : List Rw) : List Nat := (rs.filter fun r => lftR r == s).map lowR
theorem ord_own : ∀ (rs : List Rw) (l : List Int), ordS s l rs = wrd l (ownW s rs)
  | [], _ => rfl
  | r :: rs, l => by
    show ordS s (if lftR r == s then swS l (lowR r) else l) rs = _
    rw [ord_own rs]
    unfold ownW
    rw [List.filter_cons]
    by_cases c : (lftR r == s) = true
    · rw [if_pos c, if_pos c]; rfl
    · rw [if_neg c, if_neg c]
theorem own_app (rs qs : List Rw) : ownW s (rs ++ qs) = ownW s rs ++ ownW s qs := by
  unfold ownW
  rw [List.filter_append, List.map_append]
def WOk (N : Nat) (w : List Nat) : Prop := ∀ c ∈ w, c + 1 < N
theorem WOk.app {w v : List Nat} (h : WOk N w) (g : WOk N v) : WOk N (w ++ v) := fun c hc => by
  rcases List.mem_append.mp hc with hc | hc
  · exact h c hc
  · exact g c hc
theorem own_ok (h : ∀ r ∈ rs, RwOk N r) : WOk N (ownW s rs) := fun c hc => by
  obtain ⟨r, hr, rfl⟩ := List.mem_map.mp hc
  exact low_lt (h r (List.mem_filter.mp hr).1)
def rowW (c : Nat) : Rw := ⟨c, c + 1, false⟩
theorem low_row (c : Nat) : lowR (rowW c) = c := by
  show min c (c + 1) = c
  omega
theorem lft_row (c : Nat) : lftR (rowW c) = true := by
  show decide (c < c + 1) = true
  simp
theorem own_row : ∀ (w : List Nat), ownW true (w.map rowW) = w
  | [] => rfl
  | c :: w => by
    have ih := own_row w
    unfold ownW at ih ⊢
    rw [List.map_cons, List.filter_cons, lft_row, if_pos (by rfl), List.map_cons, ih, low_row]
theorem rowW_ok {w : List Nat} (h : WOk N w) : ∀ r ∈ w.map rowW, RwOk N r := fun r hr => by
  obtain ⟨c, hc, rfl⟩ := List.mem_map.mp hr
  have := h c hc
  refine ⟨?_, ?_, ?_⟩
  · show c < N; omega
  · show c + 1 < N; omega
  · exact .inl rfl
theorem wrd_perm {l : List Int} {w : List Nat} (hl : l.length = N) (h : WOk N w) : (wrd l w).Perm l := by
  have := ord_perm (s := true) hl (rowW_ok h)
  rw [ord_own, own_row] at this
  exact this
theorem wrd_beg {w : List Nat} (h : WOk N w) : (wrd (begS N) w).Perm (begS N) := wrd_perm (beg_len N) h
theorem ord_wrd (h : ∀ r ∈ rs, RwOk N r) : ∃ w, WOk N w ∧ ordS s (begS N) rs = wrd (begS N) w := ⟨_, own_ok (s := s) h, ord_own _ _⟩
/-! ### counts -/
def cnt (l : List Int) (a b : Nat) : Int := cntS true l a b
theorem cnt_word {w : List Nat} (h : WOk N w) {a b : Nat} (ha : a ≤ N) (hb : b ≤ N) : Vf true N a (w.map rowW) b = cnt (wrd (begS N) w) a b := by
  rw [V_count ha (rowW_ok h) b hb, ord_own, own_row]
  rfl
theorem cnt_suc (l : List Int) (a b : Nat) : cnt l a (b + 1) = cnt l a b + (if (a : Int) ≤ l.getD b 0 then 1 else 0) := by
  unfold cnt cntS
  rw [if_pos rfl, if_pos rfl, preP]
  unfold hitI hitB
  simp
theorem begS_get {i : Nat} (h : i < N) : (begS N).getD i 0 = (i : Int) := by
  unfold begS
  rw [List.getD_eq_getElem?_getD, List.getElem?_map, List.getElem?_range h]
  rfl
/-! ### sorted by exchanges: the word of an order -/
def bubS (l : List Int) (c : Nat) : List Int := if l.getD (c + 1) 0 < l.getD c 0 then (l.set c (l.getD (c + 1) 0)).set (c + 1) (l.getD c 0) else l
theorem set2_get {l : List Int} {c i : Nat} (h : c + 1 < l.length) (a b : Int) : ((l.set c a).set (c + 1) b).getD i 0 = if i = c + 1 then b else if i = c then a else l.getD i 0 := by
  rw [List.getD_eq_getElem?_getD]
  by_cases h1 : i = c + 1
  · subst h1
    rw [List.getElem?_set_self (by simp; omega), if_pos rfl]; rfl
  · rw [List.getElem?_set_ne (by omega), if_neg h1]
    by_cases h2 : i = c
    · subst h2
      rw [List.getElem?_set_self (by omega), if_pos rfl]; rfl
    · rw [List.getElem?_set_ne (by omega), if_neg h2, List.getD_eq_getElem?_getD]
theorem bub_len (l : List Int) (c : Nat) : (bubS l c).length = l.length := by
  unfold bubS
  split <;> simp
theorem ext_getD {l m : List Int} (hl : l.length = m.length) (h : ∀ i, i < l.length → l.getD i 0 = m.getD i 0) : l = m := by
  refine List.ext_getElem hl fun i h1 h2 => ?_
  rw [← gD h1, ← gD h2]
  exact h i h1
theorem bub_back {l : List Int} {c : Nat} (h : c + 1 < l.length) (e : l.getD (c + 1) 0 < l.getD c 0) : swS (bubS l c) c = l := by
  refine ext_getD (by rw [sw_len, bub_len]) fun i hi => ?_
  have hb : bubS l c = (l.set c (l.getD (c + 1) 0)).set (c + 1) (l.getD c 0) := by unfold bubS; rw [if_pos e]
  have hl : (bubS l c).length = l.length := bub_len l c
  have g1 : (bubS l c).getD (c + 1) 0 = l.getD c 0 := by rw [hb, set2_get h, if_pos rfl]
  have g0 : (bubS l c).getD c 0 = l.getD (c + 1) 0 := by rw [hb, set2_get h, if_neg (by omega), if_pos rfl]
  by_cases h1 : i = c + 1
  · subst h1
    rw [sw_hi (by omega), g0, g1, Int.min_eq_left (by omega)]
  · by_cases h2 : i = c
    · subst h2
      rw [sw_lo (by omega), g0, g1, Int.max_eq_right (by omega)]
    · rw [sw_get (by omega) h2 h1, hb, set2_get h, if_neg h1, if_neg h2]
theorem bub_perm {l : List Int} {c : Nat} (h : c + 1 < l.length) : (bubS l c).Perm l := by
  by_cases e : l.getD (c + 1) 0 < l.getD c 0
  · have := sw_perm (l := bubS l c) (c := c) (by rw [bub_len]; exact h)
    rw [bub_back h e] at this
    exact this.symm
  · unfold bubS
    rw [if_neg e]
def BubI (N i : Nat) (l : List Int) : Prop := ∀ j k, j < k → k < N → N ≤ k + i → l.getD j 0 ≤ l.getD k 0
def BubK (N i c : Nat) (l : List Int) : Prop := BubI N i l ∧ ∀ j k, j < k → k < N → k ≤ c → (k = c ∨ N ≤ k + i + 1) → l.getD j 0 ≤ l.getD k 0
theorem bubK_zero {i : Nat} {l : List Int} (h : BubI N i l) : BubK N i 0 l := ⟨h, fun j k h1 _ h3 _ => by omega⟩
theorem bubK_step {i c : Nat} {l : List Int} (hl : l.length = N) (hc : c + 1 < N) (h : BubK N i c l) : BubK N i (c + 1) (bubS l c) := by
  obtain ⟨h1, h2⟩ := h
  by_cases e : l.getD (c + 1) 0 < l.getD c 0
  · have hb : bubS l c = (l.set c (l.getD (c + 1) 0)).set (c + 1) (l.getD c 0) := by unfold bubS; rw [if_pos e]
    have hn : ¬ N ≤ c + 1 + i := fun z => by
      have := h1 c (c + 1) (by omega) hc z
      omega
    have g : ∀ x, (bubS l c).getD x 0 = if x = c + 1 then l.getD c 0 else if x = c then l.getD (c + 1) 0 else l.getD x 0 := fun x => by rw [hb, set2_get (by omega)]
    refine ⟨fun j k a1 a2 a3 => ?_, fun j k a1 a2 a3 a4 => ?_⟩
    · have k1 : ¬ k = c + 1 := by omega
      have k2 : ¬ k = c := by omega
      rw [g k, if_neg k1, if_neg k2, g j]
      split
      · exact h1 c k (by omega) a2 a3
      · split
        · exact h1 (c + 1) k (by omega) a2 a3
        · exact h1 j k a1 a2 a3
    · have k1 : k = c + 1 := by omega
      subst k1
      rw [g (c + 1), if_pos rfl, g j, if_neg (by omega)]
      split
      · omega
      · exact h2 j c (by omega) (by omega) (Nat.le_refl _) (.inl rfl)
  · have hb : bubS l c = l := by unfold bubS; rw [if_neg e]
    rw [hb]
    refine ⟨h1, fun j k a1 a2 a3 a4 => ?_⟩
    by_cases k1 : k = c + 1
    · subst k1
      by_cases j1 : j = c
      · subst j1; omega
      · have := h2 j c (by omega) (by omega) (Nat.le_refl _) (.inl rfl)
        omega
    · exact h2 j k a1 a2 (by omega) (.inr (by omega))
theorem bubI_zero (l : List Int) : BubI N 0 l := fun j k _ h2 h3 => by omega
theorem bubI_end {i c : Nat} {l : List Int} (hc : N ≤ c + 1) (h : BubK N i c l) : BubI N (i + 1) l := fun j k h1 h2 h3 => h.2 j k h1 h2 (by omega) (.inr (by omega))
theorem bub_sorted {l : List Int} (hp : l.Perm (begS N)) (h : BubI N N l) : l = begS N := by
  have hl : l.length = N := by rw [hp.length_eq, beg_len]
  refine sorted_eq hp ?_ (beg_sorted N)
  rw [List.pairwise_iff_getElem]
  intro i j h1 h2 h3
  rw [← gD h1, ← gD h2]
  exact h i j h3 (by omega) (by omega)
end TK

set_option Elab.async false
set_option linter.all false
set_option maxRecDepth 100000
set_option maxHeartbeats 4000000
namespace TK
open PySem PySem.Spec
open PyProof.Rows hiding St
open L2
/-! # turned pairs, fewest exchanges (no program) -/
section
variable {N c : Nat} {l m A B : List Int} {w : List Nat} {rs : List Rw} {x y : Int}
/-- pairs of which the greater one stands ahead -/
def invI : List Int → Nat
  | [] => 0
  | x :: l => (l.filter fun y => decide (y < x)).length + invI l
theorem inv_swap (x y : Int) (B : List Int) : ∀ A : List Int, invI (A ++ x :: y :: B) + (if x < y then 1 else 0) = invI (A ++ y :: x :: B) + (if y < x then 1 else 0)
  | [] => by
    simp only [List.nil_append, invI, List.filter_cons]
    by_cases h1 : x < y
    · have h2 : ¬ y < x := by omega
      simp [h1, h2]
      omega
    · by_cases h2 : y < x
      · simp [h1, h2]
        omega
      · have : x = y := by omega
        subst this
        simp
  | a :: A => by
    have ih := inv_swap x y B A
    have hp : (A ++ x :: y :: B).Perm (A ++ y :: x :: B) := List.Perm.append_left A (List.Perm.swap y x B)
    have hf := (hp.filter fun z => decide (z < a)).length_eq
    simp only [List.cons_append, invI]
    omega
theorem bub_inv (h : c + 1 < l.length) (e : l.getD (c + 1) 0 < l.getD c 0) : invI l = invI (bubS l c) + 1 := by
  obtain ⟨A, x, y, B, rfl, hA⟩ := two_at h
  subst hA
  have gx : (A ++ x :: y :: B).getD A.length 0 = x := by rw [List.getD_eq_getElem?_getD, List.getElem?_append_right (Nat.le_refl _)]; simp
  have gy : (A ++ x :: y :: B).getD (A.length + 1) 0 = y := by rw [List.getD_eq_getElem?_getD, List.getElem?_append_right (by omega)]; simp
  rw [gx, gy] at e
  unfold bubS
  rw [gx, gy, if_pos e]
  have es : ((A ++ x :: y :: B).set A.length y).set (A.length + 1) x = A ++ y :: x :: B := by
    rw [List.set_append_right _ _ (Nat.le_refl _), Nat.sub_self, List.set_append_right _ _ (by omega), show A.length + 1 - A.length = 1 from by omega]
    rfl
  rw [es]
  have := inv_swap x y B A
  have h2 : ¬ x < y := by omega
  rw [if_neg h2, if_pos e] at this
  omega
theorem sw_inv (h : c + 1 < l.length) : invI (swS l c) ≤ invI l + 1 := by
  obtain ⟨A, x, y, B, rfl, hA⟩ := two_at h
  subst hA
  have gx : (A ++ x :: y :: B).getD A.length 0 = x := by rw [List.getD_eq_getElem?_getD, List.getElem?_append_right (Nat.le_refl _)]; simp
  have gy : (A ++ x :: y :: B).getD (A.length + 1) 0 = y := by rw [List.getD_eq_getElem?_getD, List.getElem?_append_right (by omega)]; simp
  unfold swS
  rw [gx, gy]
  by_cases e : y < x
  · rw [if_pos e]; omega
  · rw [if_neg e]
    have es : ((A ++ x :: y :: B).set A.length y).set (A.length + 1) x = A ++ y :: x :: B := by
      rw [List.set_append_right _ _ (Nat.le_refl _), Nat.sub_self, List.set_append_right _ _ (by omega), show A.length + 1 - A.length = 1 from by omega]
      rfl
    rw [es]
    have := inv_swap x y B A
    rw [if_neg e] at this
    split at this <;> omega
theorem wrd_inv : ∀ (w : List Nat) (l : List Int), WOk l.length w → invI (wrd l w) ≤ invI l + w.length
  | [], l, _ => by simp [wrd]
  | c :: w, l, h => by
    have h1 := sw_inv (l := l) (h c (by simp))
    have ih := wrd_inv w (swS l c) (fun d hd => by rw [sw_len]; exact h d (List.mem_cons_of_mem _ hd))
    have e : wrd l (c :: w) = wrd (swS l c) w := rfl
    rw [e]
    simp only [List.length_cons]
    omega
theorem inv_sorted : ∀ l : List Int, l.Pairwise (· ≤ ·) → invI l = 0
  | [], _ => rfl
  | x :: l, h => by
    rw [List.pairwise_cons] at h
    have : (l.filter fun y => decide (y < x)) = [] := by
      rw [List.filter_eq_nil_iff]
      intro y hy
      have := h.1 y hy
      simp
      omega
    simp only [invI, this, inv_sorted l h.2]
    rfl
theorem inv_beg : invI (begS N) = 0 := inv_sorted _ (beg_sorted N)
/-- the first place at which a lesser number comes behind -/
def fallI (l : List Int) : Option Nat := (List.range (l.length - 1)).find? fun c => decide (l.getD (c + 1) 0 < l.getD c 0)
theorem fall_some (h : fallI l = some c) : c + 1 < l.length ∧ l.getD (c + 1) 0 < l.getD c 0 := by
  unfold fallI at h
  have h1 := List.find?_some h
  have h2 := List.mem_of_find?_eq_some h
  rw [List.mem_range] at h2
  exact ⟨by omega, of_decide_eq_true h1⟩
theorem fall_none (h : fallI l = none) : ∀ c, c + 1 < l.length → l.getD c 0 ≤ l.getD (c + 1) 0 := fun c hc => by
  unfold fallI at h
  rw [List.find?_eq_none] at h
  have := h c (List.mem_range.mpr (by omega))
  simp only [decide_eq_true_eq] at this
  omega
theorem rise_sorted : ∀ l : List Int, (∀ c, c + 1 < l.length → l.getD c 0 ≤ l.getD (c + 1) 0) → l.Pairwise (· ≤ ·)
  | [], _ => List.Pairwise.nil
  | [x], _ => by simp
  | x :: y :: l, h => by
    have ih := rise_sorted (y :: l) (fun c hc => by
      have := h (c + 1) (by simp at hc ⊢; omega)
      simpa using this)
    have h0 : x ≤ y := by simpa using h 0 (by simp)
    rw [List.pairwise_cons]
    refine ⟨fun z hz => ?_, ih⟩
    rcases List.mem_cons.mp hz with rfl | hz
    · exact h0
    · rw [List.pairwise_cons] at ih
      exact Int.le_trans h0 (ih.1 z hz)
theorem fall_end (hp : l.Perm (begS N)) (h : fallI l = none) : l = begS N := sorted_eq hp (rise_sorted l (fall_none h)) (beg_sorted N)
/-- the fewest exchanges -/
def cutsF : Nat → List Int → List Nat → List Nat
  | 0, _, acc => acc
  | k + 1, l, acc => match fallI l with
    | none => acc
    | some c => cutsF k (bubS l c) (c :: acc)
def wordL (l : List Int) : List Nat := cutsF (invI l) l []
theorem cutsF_ok : ∀ (k : Nat) (l : List Int) (acc : List Nat), invI l = k → l.Perm (begS N) → WOk N acc → wrd (begS N) (cutsF k l acc) = wrd l acc ∧ WOk N (cutsF k l acc) ∧ (cutsF k l acc).length = k + acc.length
  | 0, l, acc, hk, hp, ha => by
    have : fallI l = none := by
      cases h : fallI l with
      | none => rfl
      | some c =>
        obtain ⟨h1, h2⟩ := fall_some h
        have := bub_inv h1 h2
        omega
    rw [fall_end hp this]
    exact ⟨rfl, ha, by simp [cutsF]⟩
  | k + 1, l, acc, hk, hp, ha => by
    unfold cutsF
    cases h : fallI l with
    | none =>
      rw [fall_end hp h, inv_beg] at hk
      omega
    | some c =>
      obtain ⟨h1, h2⟩ := fall_some h
      have hi := bub_inv h1 h2
      have hl : l.length = N := by rw [hp.length_eq, beg_len]
      obtain ⟨g1, g2, g3⟩ := cutsF_ok k (bubS l c) (c :: acc) (by omega) ((bub_perm h1).trans hp) (fun d hd => by
        rcases List.mem_cons.mp hd with rfl | hd
        · omega
        · exact ha d hd)
      refine ⟨?_, g2, by rw [g3]; simp; omega⟩
      rw [g1]
      show wrd (swS (bubS l c) c) acc = _
      rw [bub_back h1 h2]
theorem word_ok (hp : l.Perm (begS N)) : wrd (begS N) (wordL l) = l ∧ WOk N (wordL l) ∧ (wordL l).length = invI l := by
  obtain ⟨h1, h2, h3⟩ := cutsF_ok (invI l) l [] rfl hp (fun c hc => by cases hc)
  exact ⟨h1, h2, by rw [wordL, h3]; simp⟩
theorem cutsF_step {acc : List Nat} (h : fallI l = some c) : cutsF (invI l) l acc = cutsF (invI (bubS l c)) (bubS l c) (c :: acc) := by
  obtain ⟨h1, h2⟩ := fall_some h
  rw [bub_inv h1 h2]
  conv => lhs; unfold cutsF
  rw [h]
theorem cutsF_end {acc : List Nat} (hp : l.Perm (begS N)) (h : fallI l = none) : cutsF (invI l) l acc = acc := by
  rw [fall_end hp h, inv_beg]
  rfl
/-! ## rows of the fewest exchanges -/
def shL (w v : List Nat) : List Rw := (w.map fun c => ⟨c, c + 1, false⟩) ++ v.map fun c => ⟨c + 1, c, false⟩
theorem shL_ok {v : List Nat} (hw : WOk N w) (hv : WOk N v) : ∀ r ∈ shL w v, RwOk N r := fun r hr => by
  rcases List.mem_append.mp hr with hr | hr
  · obtain ⟨c, hc, rfl⟩ := List.mem_map.mp hr
    have := hw c hc
    exact ⟨by show c < N; omega, by show c + 1 < N; omega, .inl rfl⟩
  · obtain ⟨c, hc, rfl⟩ := List.mem_map.mp hr
    have := hv c hc
    exact ⟨by show c + 1 < N; omega, by show c < N; omega, .inr rfl⟩
theorem shL_len {v : List Nat} : (shL w v).length = w.length + v.length := by simp [shL]
theorem shL_loose {v : List Nat} : ∀ r ∈ shL w v, r.f = false := fun r hr => by
  rcases List.mem_append.mp hr with hr | hr
  · obtain ⟨c, _, rfl⟩ := List.mem_map.mp hr; rfl
  · obtain ⟨c, _, rfl⟩ := List.mem_map.mp hr; rfl
theorem own_shT {v : List Nat} : ownW true (shL w v) = w := by
  unfold shL
  rw [own_app]
  have h1 : ∀ w : List Nat, ownW true (w.map fun c => (⟨c, c + 1, false⟩ : Rw)) = w := fun w => by
    induction w with
    | nil => rfl
    | cons c w ih =>
      unfold ownW at ih ⊢
      rw [List.map_cons, List.filter_cons, if_pos (by simp [lftR]), List.map_cons, ih]
      congr 1
      show min c (c + 1) = c
      omega
  have h2 : ∀ v : List Nat, ownW true (v.map fun c => (⟨c + 1, c, false⟩ : Rw)) = [] := fun v => by
    induction v with
    | nil => rfl
    | cons c w ih =>
      unfold ownW at ih ⊢
      rw [List.map_cons, List.filter_cons, if_neg (by simp [lftR]), ih]
  rw [h1, h2, List.append_nil]
theorem own_shF {v : List Nat} : ownW false (shL w v) = v := by
  unfold shL
  rw [own_app]
  have h1 : ∀ w : List Nat, ownW false (w.map fun c => (⟨c, c + 1, false⟩ : Rw)) = [] := fun w => by
    induction w with
    | nil => rfl
    | cons c w ih =>
      unfold ownW at ih ⊢
      rw [List.map_cons, List.filter_cons, if_neg (by simp [lftR]), ih]
  have h2 : ∀ v : List Nat, ownW false (v.map fun c => (⟨c + 1, c, false⟩ : Rw)) = v := fun v => by
    induction v with
    | nil => rfl
    | cons c w ih =>
      unfold ownW at ih ⊢
      rw [List.map_cons, List.filter_cons, if_pos (by simp [lftR]), List.map_cons, ih]
      congr 1
      show min (c + 1) c = c
      omega
  rw [h1, h2, List.nil_append]
/-- the log of the fewest rows with two orders -/
def shR (l m : List Int) : List Rw := shL (wordL l) (wordL m)
theorem shR_ok (hl : l.Perm (begS N)) (hm : m.Perm (begS N)) : (∀ r ∈ shR l m, RwOk N r) ∧ (∀ r ∈ shR l m, r.f = false) ∧ ordS true (begS N) (shR l m) = l ∧ ordS false (begS N) (shR l m) = m ∧ (shR l m).length = invI l + invI m := by
  obtain ⟨a1, a2, a3⟩ := word_ok hl
  obtain ⟨b1, b2, b3⟩ := word_ok hm
  exact ⟨shL_ok a2 b2, shL_loose, by rw [ord_own, shR, own_shT, a1], by rw [ord_own, shR, own_shF, b1], by rw [shR, shL_len, a3, b3]⟩
/-- no row can be left out of a log of the fewest rows -/
theorem own_two : ∀ rs : List Rw, (ownW true rs).length + (ownW false rs).length = rs.length
  | [] => rfl
  | r :: rs => by
    have ih := own_two rs
    unfold ownW at ih ⊢
    simp only [List.length_map] at ih ⊢
    rw [List.filter_cons, List.filter_cons]
    generalize (rs.filter fun r => lftR r == true) = X at ih ⊢
    generalize (rs.filter fun r => lftR r == false) = Y at ih ⊢
    cases h : lftR r <;> simp <;> omega
theorem fewest (h : ∀ r ∈ rs, RwOk N r) : invI (ordS true (begS N) rs) + invI (ordS false (begS N) rs) ≤ rs.length := by
  have h1 := wrd_inv (ownW true rs) (begS N) (by rw [beg_len]; exact own_ok h)
  have h2 := wrd_inv (ownW false rs) (begS N) (by rw [beg_len]; exact own_ok h)
  rw [inv_beg] at h1 h2
  rw [ord_own, ord_own]
  have := own_two rs
  omega
theorem inv_le : ∀ l : List Int, invI l ≤ l.length * l.length
  | [] => Nat.le_refl _
  | x :: l => by
    have ih := inv_le l
    have := List.length_filter_le (fun y => decide (y < x)) l
    simp only [invI, List.length_cons, Nat.add_mul, Nat.mul_add]
    omega
end
end TK

set_option Elab.async false
set_option linter.all false
set_option maxRecDepth 100000
set_option maxHeartbeats 4000000
namespace TK
open PySem PySem.Spec
open PyProof.Rows hiding St
open L2
/-! # two rows of numbers, compared -/
variable {st : Store} {n p q N : Nat} {k : Int} {rs qs : List Rw} {a b c d : List Int}
def tD (l : List Int) : D := .tup (l.map D.int)
def prW (a b : List Int) : D := .tup [tD a, tD b]
theorem two_can (a b : List Int) : PyData.canLayAll0 [.tuple (pyI a), .tuple (pyI b)] = true := by
  show (PyData.canLayAll0 (pyI a) && (PyData.canLayAll0 (pyI b) && true)) = true
  rw [canLay_ints, canLay_ints]; rfl
theorem two_depth (a b : List Int) : PyData.depthAll [.tuple (pyI a), .tuple (pyI b)] = 1 := by
  show max (PyData.depthAll (pyI a) + 1) (max (PyData.depthAll (pyI b) + 1) 0) = 1
  rw [depthAll_ints, depthAll_ints]; rfl
theorem two_eqv (a b c d : List Int) : PyData.eqvAll [.tuple (pyI a), .tuple (pyI b)] [.tuple (pyI c), .tuple (pyI d)] = decide (a = c ∧ b = d) := by
  show (PyData.eqvAll (pyI a) (pyI c) && (PyData.eqvAll (pyI b) (pyI d) && true)) = _
  rw [eqv_ints, eqv_ints]
  by_cases h1 : a = c <;> by_cases h2 : b = d <;> simp [h1, h2]
theorem toPw_tD (f : Nat → Option PyData) (l : List Int) : toPw f (tD l) = some (.tuple (pyI l)) := by
  show (toPws f (l.map D.int)).map PyData.tuple = _
  rw [toPws_ints]; rfl
theorem toP_pr : toP st 50 (prW a b) = some (.tuple [.tuple (pyI a), .tuple (pyI b)]) := by
  show toPw _ (.tup [tD a, tD b]) = _
  simp [toPw, toPws, toPw_tD]
theorem shaped_pr (a b : List Int) : SeqAt.shaped (.tuple [.tuple (pyI a), .tuple (pyI b)]) = true := by
  unfold SeqAt.shaped
  have h1 : (PyData.tuple [.tuple (pyI a), .tuple (pyI b)]).canLay0 = true := two_can a b
  have h2 : (PyData.tuple [.tuple (pyI a), .tuple (pyI b)]).depth ≤ 64 := by
    show PyData.depthAll [.tuple (pyI a), .tuple (pyI b)] + 1 ≤ 64
    rw [two_depth]; decide
  simp [h1, h2]
theorem shaped_prL (a b : List Int) : SeqAt.shaped (.list [.tuple (pyI a), .tuple (pyI b)]) = true := by
  unfold SeqAt.shaped
  have h1 : (PyData.list [.tuple (pyI a), .tuple (pyI b)]).canLay0 = true := two_can a b
  have h2 : (PyData.list [.tuple (pyI a), .tuple (pyI b)]).depth ≤ 64 := by
    show PyData.depthAll [.tuple (pyI a), .tuple (pyI b)] + 1 ≤ 64
    rw [two_depth]; decide
  simp [h1, h2]
theorem eqD_pr : eqD (prW a b) (prW c d) st = .ok (.bl (decide (a = c ∧ b = d))) st := by
  unfold eqD eqP
  rw [toP_pr, toP_pr]
  simp only [shaped_pr, and_self, if_true]
  show R.ok (D.bl (PyData.eqvAll [.tuple (pyI a), .tuple (pyI b)] [.tuple (pyI c), .tuple (pyI d)])) st = _
  rw [two_eqv]
theorem neD_pr : neD (prW a b) (prW c d) st = .ok (.bl (!decide (a = c ∧ b = d))) st := by
  unfold neD eqP
  rw [toP_pr, toP_pr]
  simp only [shaped_pr, and_self, if_true]
  show R.ok (D.bl (!PyData.eqvAll [.tuple (pyI a), .tuple (pyI b)] [.tuple (pyI c), .tuple (pyI d)])) st = _
  rw [two_eqv]
theorem toP_prL {r : Nat} (h : st[r]? = some (.lst [tD a, tD b])) : toP st 50 (.ref r) = some (.list [.tuple (pyI a), .tuple (pyI b)]) := by
  have e : ∀ l, toP st 49 (tD l) = some (.tuple (pyI l)) := fun l => toPw_tD _ l
  show (match seqOf (.ref r) st with
    | some ds => (ds.mapM (toP st 49)).map PyData.list
    | none => none) = _
  rw [seqOf_ref, h]
  simp [e]
theorem neD_prL {r s : Nat} (h : st[r]? = some (.lst [tD a, tD b])) (h2 : st[s]? = some (.lst [tD c, tD d])) : neD (.ref r) (.ref s) st = .ok (.bl (!decide (a = c ∧ b = d))) st := by
  unfold neD eqP
  rw [toP_prL h, toP_prL h2]
  simp only [shaped_prL, and_self, if_true]
  show R.ok (D.bl (!PyData.eqvAll [.tuple (pyI a), .tuple (pyI b)] [.tuple (pyI c), .tuple (pyI d)])) st = _
  rw [two_eqv]
/-! ### loops left by a return -/
theorem loopF_ret {t : Tgt} {body : SF} {g : Its} {ds : List D} {env : AEnv} {r : RS} (hr : loopF t body g ds env st = r) (I : Nat → AEnv → Store → Prop) (Q : D → Store → Prop) (h0 : I 0 env st)
    (hs : ∀ i d env st, I i env st → ds[i]? = some d → ∃ env1, asgT t d env = some env1 ∧ ((∃ e s, body env1 st = .next e s ∧ gOK g s ∧ I (i + 1) e s) ∨ ∃ v s, body env1 st = .ret v s ∧ Q v s)) :
    (∃ e s, r = .next e s ∧ I ds.length e s) ∨ ∃ v s, r = .ret v s ∧ Q v s := by
  subst hr
  have key : ∀ (r : List D) (i : Nat), ds.drop i = r → i + r.length = ds.length → ∀ env st, I i env st → (∃ e s, loopF t body g r env st = .next e s ∧ I ds.length e s) ∨ ∃ v s, loopF t body g r env st = .ret v s ∧ Q v s := by
    intro r
    induction r with
    | nil =>
      intro i hd hl env st hi
      have e : i = ds.length := by simpa using hl
      exact .inl ⟨env, st, by simp [loopF], e ▸ hi⟩
    | cons d r ih =>
      intro i hd hl env st hi
      have hd0 : ds[i]? = some d := by
        have : (ds.drop i)[0]? = some d := by rw [hd]; rfl
        simpa using this
      obtain ⟨env1, ea, hb⟩ := hs i d env st hi hd0
      rcases hb with ⟨e, s, hb, hg, hI⟩ | ⟨v, s, hb, hq⟩
      · rcases ih (i + 1) (by rw [← List.drop_drop, hd]; rfl) (by simp at hl; omega) e s hI with ⟨e', s', h1, h2⟩ | ⟨v, s', h1, h2⟩
        · exact .inl ⟨e', s', by simp [loopF, ea, hb, hg, h1], h2⟩
        · exact .inr ⟨v, s', by simp [loopF, ea, hb, hg, h1], h2⟩
      · exact .inr ⟨v, s, by simp [loopF, ea, hb], hq⟩
  exact key ds 0 rfl (by simp) env st h0
theorem least_of {S : Nat → Prop} : ∀ t, S t → ∃ T, T ≤ t ∧ S T ∧ ∀ i, i < T → ¬ S i := by
  intro t
  induction t using Nat.strongRecOn with
  | ind t ih =>
    intro h
    by_cases c : ∃ i, i < t ∧ S i
    · obtain ⟨i, hi, hS⟩ := c
      obtain ⟨T, h1, h2, h3⟩ := ih i hi hS
      exact ⟨T, by omega, h2, h3⟩
    · exact ⟨t, Nat.le_refl _, h, fun i hi hS => c ⟨i, hi, hS⟩⟩
end TK

set_option Elab.async false
set_option linter.all false
set_option maxRecDepth 100000
set_option maxHeartbeats 4000000
namespace TK
open PySem PySem.Spec
open PyProof.Rows hiding St
open L2
/-! # sheets led by the law, sheets of a doing, is_doing of any flags -/
variable {st : Store} {n p N : Nat} {k : Int} {rs : List Rw} {fs : List Bool}
theorem set_mid (st x : Store) (a b o : AO) : (st ++ (a :: x) ++ [o]).set st.length b = st ++ (b :: (x ++ [o])) := by
  rw [List.append_assoc, List.set_append_right _ _ (Nat.le_refl _), Nat.sub_self]
  rfl
theorem ledD_plain (hN : N ≤ 12) (hrs : ∀ r ∈ rs, RwOk N r) (i : Nat) (k : Nat) : plainT (k + 1) (ledD N rs fs i) := ints_plain k _ (by rw [(ledS_row hrs i).1]; omega)
theorem ledL_plain (hN : N ≤ 12) (hrs : ∀ r ∈ rs, RwOk N r) (m : Nat) : ∀ d ∈ ledL N rs fs m, plainT 58 d := fun d hd => by
  obtain ⟨i, _, rfl⟩ := List.mem_map.mp hd
  exact ledD_plain hN hrs i 57
theorem ledL_at {m i : Nat} (h : i < m) : (ledL N rs fs m)[i]? = some (ledD N rs fs i) := by
  unfold ledL
  rw [List.getElem?_map, List.getElem?_range h]; rfl
theorem boolsOf_bls : ∀ l : List Bool, boolsOf (l.map D.bl) = some l
  | [] => rfl
  | _ :: l => by simp [boolsOf, boolsOf_bls l]
theorem allG_bls (l : List Bool) (st : Store) : allG (l.map D.bl) st = .ok (.bl (l.all id)) st := by
  unfold allG
  rw [boolsOf_bls]
/-- whether flags are a doing -/
def doB : List Rw → List Bool → Bool
  | r :: rs, f :: fs => (f || !r.f) && doB rs fs
  | _, _ => true
theorem doB_iff : ∀ {rs : List Rw} {fs : List Bool}, fs.length = rs.length → (doB rs fs = true ↔ doOk rs fs)
  | [], [], _ => by simp [doB, doOk]
  | r :: rs, f :: fs, h => by
    have ih := doB_iff (rs := rs) (fs := fs) (by simpa using h)
    rw [doB, doOk, Bool.and_eq_true, ih]
    cases f <;> cases q : r.f <;> simp
  | [], _ :: _, h => by simp at h
  | _ :: _, [], h => by simp at h
theorem zip_do : ∀ {rs : List Rw} {fs : List Bool}, fs.length = rs.length → ∃ bs : List Bool, bs.all id = doB rs fs ∧ zipD (fs.map D.bl) (rs.map rwD) = (List.range rs.length).map (fun i => .tup [.bl (fs.getD i false), rwD (rs.getD i ⟨0, 0, false⟩)]) ∧ bs = (List.range rs.length).map (fun i => fs.getD i false || !(rs.getD i ⟨0, 0, false⟩).f)
  | [], [], _ => ⟨[], rfl, rfl, rfl⟩
  | r :: rs, f :: fs, h => by
    obtain ⟨bs, h1, h2, h3⟩ := zip_do (rs := rs) (fs := fs) (by simpa using h)
    refine ⟨(f || !r.f) :: bs, by rw [List.all_cons, h1]; rfl, ?_, ?_⟩
    · rw [List.map_cons, List.map_cons, zipD, h2, List.length_cons, List.range_succ_eq_map, List.map_cons, List.map_map]
      rfl
    · rw [h3, List.length_cons, List.range_succ_eq_map, List.map_cons, List.map_map]
      rfl
  | [], _ :: _, h => by simp at h
  | _ :: _, [], h => by simp at h
def doCell (d : D) : D := match d with
  | .tup [.bl f, .tup [_, _, .bl g]] => .bl (f || !g)
  | d => d
end TK

set_option Elab.async false
set_option linter.all false
set_option maxRecDepth 100000
set_option maxHeartbeats 4000000
namespace TK
open PySem PySem.Spec
open PyProof.Rows hiding St
open L2
/-! # logs changed, compared -/
variable {st : Store} {n p q N : Nat} {k : Int} {rs qs : List Rw}
@[simp] theorem eIsC_ap (c : Str) (fe : EF) (env : AEnv) (st : Store) : eIsC c fe env st = ((fe env st).bind fun d st1 => match d with
  | .ref n => (match st1[n]? with
    | some (.ins c1 _) => if c1 = c then .ok (.bl true) st1 else .bad
    | _ => .bad)
  | _ => .bad) := (Eq.refl _).trans rfl
theorem rows_plain (h : rs.length ≤ 1000) (k : Nat) : plainT (k + 2) (.tup (rs.map rwD)) := ⟨by simpa using h, fun d hd => by
  obtain ⟨r, _, rfl⟩ := List.mem_map.mp hd
  refine ⟨by simp, fun d hd => ?_⟩
  simp only [List.mem_cons, List.not_mem_nil, or_false] at hd
  rcases hd with rfl | rfl | rfl <;> cases k <;> trivial⟩
theorem without_ok {i : Nat} (h : st[p]? = some (logO N rs)) (hi : i < rs.length) (hN1 : 1 ≤ N) (hN : N ≤ 12) (hl : rs.length ≤ 10000) :
    gcH st (m_without [.ref p, .int i] st) = .ok (.ref st.length) (st ++ [logO N (rs.take i ++ rs.drop (i + 1))]) := by
  have a1 : (i : Int) ≤ (rs.length : Int) - 1 := by omega
  have hc : m_check_row [.ref p, .int i] st = .ok .non st := by
    simp [m_check_row_eq, log_at h, lkR, is_within_ok, a1]
  have c1 := cut_hi (rs.map rwD) i
  have c2 := cut_lo (rs.map rwD) (i + 1)
  have e1 : ((i + 1 : Nat) : Int) = (i : Int) + 1 := by omega
  rw [e1] at c2
  have zl : min i rs.length + (rs.length - (i + 1)) ≤ sizeLine := szl (by omega)
  have hr := raw_log_gc (st := st) (N := N) (rs := rs.take i ++ rs.drop (i + 1)) (d := .tup ((rs.map rwD).take i ++ (rs.map rwD).drop (i + 1))) hN1 hN (by rw [List.map_append, List.map_take, List.map_drop]; rfl)
  have e : m_without [.ref p, .int i] st = .ok (.ref st.length) (st ++ [logO N (rs.take i ++ rs.drop (i + 1))]) := by
    rw [m_without_eq]
    simp [hc, log_at h, lkO, lkR, c1, c2, okIf_pos zl] at hr ⊢
    simp [hr]
  rw [e]
  exact gcR_newO _ (log_closed _) _ (by simp) (Nat.le_refl _)
def looseR (r : Rw) : Rw := ⟨r.x, r.y, false⟩
theorem loose_rows (h : ∀ r ∈ rs, RwOk N r) : ∀ r ∈ rs.map looseR, RwOk N r := fun r hr => by
  obtain ⟨q, hq, rfl⟩ := List.mem_map.mp hr
  exact h q hq
def looF (d : D) : D := match d with
  | .tup [x, y, _] => .tup [x, y, .bl false]
  | d => d
theorem loo_map : (rs.map rwD).map looF = (rs.map looseR).map rwD := by
  rw [List.map_map, List.map_map]
  rfl
theorem led_loose (N : Nat) (rs : List Rw) (fs : List Bool) : ∀ i, ledS N (rs.map looseR) fs i = ledS N rs fs i
  | 0 => rfl
  | i + 1 => by
    have ih := led_loose N rs fs i
    unfold ledS
    rw [ih, List.getElem?_map]
    cases rs[i]? with
    | none => rfl
    | some r => cases fs[i]? with
      | none => rfl
      | some f => rfl
theorem do_loose : ∀ {rs : List Rw} {fs : List Bool}, doOk rs fs → doOk (rs.map looseR) fs
  | [], [], _ => trivial
  | r :: rs, f :: fs, h => ⟨fun z => (by cases z), do_loose h.2⟩
end TK

set_option Elab.async false
set_option linter.all false
set_option maxRecDepth 100000
set_option maxHeartbeats 4000000
namespace TK
open PySem PySem.Spec
open PyProof.Rows hiding St
open L2
variable {st : Store} {n p N : Nat} {k : Int} {rs : List Rw} {fs : List Bool}
def flD (fs : List Bool) : D := .tup (fs.map D.bl)
theorem flD_closed (j : Nat) : ∀ L : List (List Bool), closeds j (L.map flD) = true
  | [] => rfl
  | f :: L => by simp [closeds, closed, flD, bl_closed, flD_closed j L]
/-! ### all doings -/
def addL (r : Rw) (fs : List Bool) : List (List Bool) := if r.f then [fs ++ [true]] else [fs ++ [false], fs ++ [true]]
def stepL (L : List (List Bool)) (r : Rw) : List (List Bool) := L.flatMap (addL r)
theorem dos_mem {g : List Bool} : ∀ (rs : List Rw) (L : List (List Bool)), g ∈ rs.foldl stepL L ↔ ∃ a b, g = a ++ b ∧ a ∈ L ∧ doOk rs b
  | [], L => by
    constructor
    · intro h; exact ⟨g, [], by simp, h, trivial⟩
    · rintro ⟨a, b, rfl, h, hb⟩
      cases b with
      | nil => simpa using h
      | cons _ _ => exact hb.elim
  | r :: rs, L => by
    rw [List.foldl_cons, dos_mem rs]
    constructor
    · rintro ⟨a, b, rfl, h, hb⟩
      obtain ⟨c, hc, ha⟩ := List.mem_flatMap.mp h
      unfold addL at ha
      split at ha
      · rename_i hf
        obtain rfl : a = c ++ [true] := by simpa using ha
        exact ⟨c, true :: b, by simp, hc, fun _ => rfl, hb⟩
      · rename_i hf
        have ha : a = c ++ [false] ∨ a = c ++ [true] := by simpa using ha
        rcases ha with rfl | rfl
        · exact ⟨c, false :: b, by simp, hc, fun z => absurd z hf, hb⟩
        · exact ⟨c, true :: b, by simp, hc, fun _ => rfl, hb⟩
    · rintro ⟨a, b, rfl, h, hb⟩
      cases b with
      | nil => exact hb.elim
      | cons f b =>
        refine ⟨a ++ [f], b, by simp, List.mem_flatMap.mpr ⟨a, h, ?_⟩, hb.2⟩
        unfold addL
        cases f with
        | true => split <;> simp
        | false =>
          rw [if_neg (fun z => absurd (hb.1 z) (by simp))]
          simp
theorem step_len (L : List (List Bool)) (r : Rw) : (stepL L r).length ≤ 2 * L.length := by
  unfold stepL
  induction L with
  | nil => simp
  | cons a L ih =>
    rw [List.flatMap_cons, List.length_append, List.length_cons]
    have : (addL r a).length ≤ 2 := by unfold addL; split <;> simp
    omega
theorem dos_len : ∀ (rs : List Rw) (L : List (List Bool)), (rs.foldl stepL L).length ≤ 2 ^ rs.length * L.length
  | [], L => by simp
  | r :: rs, L => by
    have h1 := dos_len rs (stepL L r)
    have h2 := Nat.mul_le_mul_left (2 ^ rs.length) (step_len L r)
    rw [List.foldl_cons, List.length_cons, Nat.pow_succ]
    calc _ ≤ _ := h1
      _ ≤ _ := h2
      _ = _ := by rw [Nat.mul_assoc]
theorem take_suc {α : Type} {l : List α} {i : Nat} {a : α} (h : l[i]? = some a) : l.take (i + 1) = l.take i ++ [a] := by rw [List.take_add_one, h]; rfl
theorem pow_small {a b : Nat} (h : a ≤ b) (hb : b ≤ 10) : 2 ^ a ≤ 1024 := Nat.le_trans (Nat.pow_le_pow_right (by omega) (Nat.le_trans h hb)) (by decide)
/-! ### all flags -/
end TK

set_option Elab.async false
set_option linter.all false
set_option maxRecDepth 100000
set_option maxHeartbeats 4000000
namespace TK
open PySem PySem.Spec
open PyProof.Rows hiding St
open L2
/-! # orders asked, rows drawn -/
section
variable {st S : Store} {n p q N c : Nat} {k : Int} {l m : List Int} {w : List Nat} {rs qs : List Rw}
noncomputable def lq0l : LF := (lLst (lCons (eLst (lRng1 (eVar 0))) (lCons (eLst (lRng1 (eVar 0))) lNil)))
noncomputable def lq0 : SF := (sSet 2 (eLst lq0l))
noncomputable def lq1_0e : EF := (e2 getD (eVar 2) (eB intG (lCons (e2 ltD (e2 getD (eVar 3) (eC (.int 1))) (e2 getD (eVar 3) (eC (.int 0)))) lNil)))
noncomputable def lq1_0 : SF := (sSet 4 lq1_0e)
noncomputable def lq1_1e : EF := (eB max2G (lCons (e2 getD (eVar 3) (eC (.int 0))) (lCons (e2 getD (eVar 3) (eC (.int 1))) lNil)))
noncomputable def lq1_1 : SF := (sSet 5 lq1_1e)
noncomputable def lq1_2 : SF := (sIf (bB (e2 gtD (e2 getD (eVar 4) (eVar 5)) (e2 getD (eVar 4) (e2 subD (eVar 5) (eC (.int 1)))))) (sSeq (sSet 6 (e2 getD (eVar 4) (eVar 5))) (sSeq (sSub (eVar 4) (eVar 5) (e2 getD (eVar 4) (e2 subD (eVar 5) (eC (.int 1))))) (sSub (eVar 4) (e2 subD (eVar 5) (eC (.int 1))) (eVar 6)))) sNil)
noncomputable def lq1b : SF := (sSeq lq1_0 (sSeq lq1_1 lq1_2))
noncomputable def lq1 : SF := (sFor (.name 3) (iSeqF (eVar 1)) lq1b)
noncomputable def lq2e : EF := (eTup (lCons (eQ tupG (lRd (e2 getD (eVar 2) (eC (.int 0))))) (lCons (eQ tupG (lRd (e2 getD (eVar 2) (eC (.int 1))))) lNil)))
noncomputable def lq2 : SF := (sRet lq2e)
theorem lq_cut : m__law_orders = runDef 7 (sSeq lq0 (sSeq lq1 lq2)) := m__law_orders_eq
noncomputable def rq0 : SF := (sIf (bB (e2 eqD (eVar 1) (eC (.int 1)))) (sRet (eTup lNil)) sNil)
noncomputable def rq1l : LF := (lLst lNil)
noncomputable def rq1 : SF := (sSet 4 (eLst rq1l))
noncomputable def rq2_0e : EF := (eCall m__law_draw (lCons (eVar 0) (lCons (e2 subD (eVar 1) (eC (.int 1))) lNil)))
noncomputable def rq2_0 : SF := (sSet 6 rq2_0e)
noncomputable def rq2_1e : EF := (e2 getD (eLst (lLst (lCons (eTup (lCons (eVar 6) (lCons (e2 addD (eVar 6) (eC (.int 1))) lNil))) (lCons (eTup (lCons (e2 addD (eVar 6) (eC (.int 1))) (lCons (eVar 6) lNil))) lNil)))) (eCall m__law_draw (lCons (eVar 0) (lCons (eC (.int 2)) lNil))))
noncomputable def rq2_1 : SF := (sSet 7 rq2_1e)
noncomputable def rq2_2e : EF := (eM isLst appendG (eVar 4) (lCons (e2 addD (eVar 7) (eTup (lCons (e2 ltD (eCall m__law_draw (lCons (eVar 0) (lCons (eC (.int 12)) lNil))) (eVar 3)) lNil))) lNil))
noncomputable def rq2_2 : SF := (sDrop rq2_2e)
noncomputable def rq2b : SF := (sSeq rq2_0 (sSeq rq2_1 rq2_2))
noncomputable def rq2 : SF := (sFor (.name 5) (iRng1F (lCons (eCall m__law_draw (lCons (eVar 0) (lCons (e2 addD (eVar 2) (eC (.int 1))) lNil))) lNil)) rq2b)
noncomputable def rq3e : EF := (eQ tupG (lRd (eVar 4)))
noncomputable def rq3 : SF := (sRet rq3e)
theorem rq_cut : m__law_rows = runDef 8 (sSeq rq0 (sSeq rq1 (sSeq rq2 rq3))) := m__law_rows_eq
/-- all doings, ascending -/
def dosL (rs : List Rw) : List (List Bool) := rs.foldl stepL [[]]
theorem dosL_mem {g : List Bool} : g ∈ dosL rs ↔ doOk rs g := by
  unfold dosL
  rw [dos_mem]
  constructor
  · rintro ⟨a, b, rfl, h, hb⟩
    obtain rfl : a = [] := by simpa using h
    simpa using hb
  · intro h
    exact ⟨[], g, rfl, by simp, h⟩
theorem gc_back {st st' : Store} {d : D} (h : ∀ i, i < st.length → st'[i]? = st[i]?) (hd : closed st.length d = true) : gcH st (.ok d st') = .ok d st := by
  have ht : Trim st st' := fun i hi => .inl (h i hi)
  have hk : st'.take st.length = st := by
    apply List.ext_getElem?
    intro i
    by_cases hi : i < st.length
    · rw [List.getElem?_take_of_lt hi]; exact h i hi
    · rw [List.getElem?_eq_none (by simp; omega), List.getElem?_eq_none (by omega)]
  unfold gcH
  rw [hid_eq]
  unfold gcR
  simp [ht, hd, hk]
theorem sumG_ints (l : List Int) (st : Store) : sumG (l.map D.int) st = .ok (.int l.sum) st := by
  unfold sumG
  rw [intsOf_ints]
theorem sqN {f g : SF} {e e' : AEnv} {s s' : Store} (h : f e s = .next e' s') : sSeq f g e s = g e' s' := by rw [sSeq_ap, h, sThen_next]
theorem kpS {X : Store} {q : Nat} {o : AO} (h : st[q]? = some o) : (st ++ X)[q]? = some o := by rw [List.getElem?_append_left (List.getElem?_eq_some_iff.mp h).1]; exact h
theorem check_loose_ok (h : st[p]? = some (logO N rs)) (hf : ∀ r ∈ rs, r.f = false) : gcH st (m_check_loose [.ref p] st) = .ok .non st := by
  have e : m_check_loose [.ref p] st = .ok .non st := by
    rw [m_check_loose_eq]
    simp only [runDef_ap]
    have ee : (List.map some [D.ref p] ++ List.replicate (3 - [D.ref p].length) none : AEnv) = [some (.ref p), none, none] := rfl
    have it : iEnumF (lCons (eFld ["Log"] "rows" (eVar 0)) lNil) [some (.ref p), none, none] st = .ok (enumFrom 0 (rs.map rwD), []) st := by simp [log_at h, lkR]
    rw [ee, sFor_ap, it]
    simp only [sOf_ok]
    rw [if_pos (by simp)]
    generalize hr : loopF _ _ _ _ _ _ = r
    obtain ⟨e, s, rfl, o1, o2, rfl, rfl⟩ := loopF_next hr (fun i env s => ∃ o1 o2 : Option D, env = [some (.ref p), o1, o2] ∧ s = st) ⟨none, none, rfl, rfl⟩ fun i d env s hI hd => by
      obtain ⟨o1, o2, rfl, rfl⟩ := hI
      rw [enumFrom_get, List.getElem?_map] at hd
      cases hri : rs[i]? with
      | none => rw [hri] at hd; cases hd
      | some r =>
        rw [hri] at hd
        obtain rfl : D.tup [.int ((0 + i : Nat) : Int), rwD r] = d := by simpa using hd
        have hf' := hf r (List.mem_of_getElem? hri)
        refine ⟨[some (.ref p), some (.int ((0 + i : Nat) : Int)), some (rwD r)], rfl, [some (.ref p), some (.int ((0 + i : Nat) : Int)), some (rwD r)], s, .inl ?_, by simp, _, _, rfl, rfl⟩
        simp [rw2, hf']
    rfl
  rw [e]
  exact gcR_non
theorem ordD_eq (s : Bool) (N : Nat) (rs : List Rw) : ordD s N rs = tD (ordS s (begS N) rs) := rfl
theorem orders_pr (h : st[p]? = some (logO N rs)) (hN : N ≤ 12) (hrs : ∀ r ∈ rs, RwOk N r) : gcH st (m_orders [.ref p] st) = .ok (prW (ordS true (begS N) rs) (ordS false (begS N) rs)) st := orders_ok h hN hrs
theorem ord_pm (s : Bool) (hrs : ∀ r ∈ rs, RwOk N r) : (ordS s (begS N) rs).Perm (begS N) := ord_perm (beg_len N) hrs
theorem let_alike_ok (h : st[p]? = some (logO N rs)) (g : st[q]? = some (logO N qs)) (hN : N ≤ 12) (hrs : ∀ r ∈ rs, RwOk N r) (hqs : ∀ r ∈ qs, RwOk N r) (hf : ∀ r ∈ rs, r.f = false) (hg : ∀ r ∈ qs, r.f = false) : gcH st (m_let_alike [.ref p, .ref q] st) = .ok (.bl (decide (ordS true (begS N) rs = ordS true (begS N) qs ∧ ordS false (begS N) rs = ordS false (begS N) qs))) st := by
  have cb : m_check_both [.ref p, .ref q] st = .ok .non st := by
    have co : m_check_offices [.ref p, .ref q] st = .ok .non st := by
      rw [m_check_offices_eq]
      simp [log_at h, log_at g, lkO]
    rw [m_check_both_eq]
    simp [co, check_loose_ok h hf, check_loose_ok g hg]
  have e : m_let_alike [.ref p, .ref q] st = .ok (.bl (decide (ordS true (begS N) rs = ordS true (begS N) qs ∧ ordS false (begS N) rs = ordS false (begS N) qs))) st := by
    have eq := eqD_pr (st := st) (a := ordS true (begS N) rs) (b := ordS false (begS N) rs) (c := ordS true (begS N) qs) (d := ordS false (begS N) qs)
    have o1 := orders_pr h hN hrs
    have o2 := orders_pr g hN hqs
    generalize prW (ordS true (begS N) rs) (ordS false (begS N) rs) = A at *
    generalize prW (ordS true (begS N) qs) (ordS false (begS N) qs) = B at *
    rw [m_let_alike_eq]
    simp [cb, o1, o2, eq]
  rw [e]
  exact gcR_bl _
theorem Dice.put {L : Nat} {o : AO} (h : Dice n k st) (hL : n < L) : Dice n k (st.set L o) := by
  obtain ⟨c, cells, a, b, m, e, h0, hn, hc, hcell, hr⟩ := h
  refine ⟨c, cells, a, b, m, e, ?_, by simpa using hn, hc, ?_, hr⟩
  · unfold dS at h0 ⊢
    rw [List.set_comm _ _ (by omega), ← h0]
  · rw [List.getElem?_set_ne (by omega)]; exact hcell
theorem Near.put {s1 : Store} {L : Nat} {o : AO} (h : Near n st s1) (hL : st.length ≤ L) : Near n st (s1.set L o) := ⟨by simpa using h.1, fun i hi hn => by
  rw [List.getElem?_set_ne (by omega)]; exact h.2 i hi hn⟩
theorem beg_closed (N : Nat) (j : Nat) : closeds j ((begS N).map D.int) = true := closeds_ints _ _
theorem lqb_ok {r : Rw} {a o : Nat} {cur : List Int} {o4 o5 o6 : Option D} (hr : RwOk N r) (hlen : cur.length = N) (hN : N ≤ 12) (ha : S[a]? = some (.lst [.ref p, .ref q])) (ho : o = if lftR r then p else q) (hS : S[o]? = some (.lst (cur.map D.int))) :
    ∃ q4 q5 q6 s', lq1b [some (.int N), some (.tup (rs.map rwD)), some (.ref a), some (rwD r), o4, o5, o6] S = .next [some (.int N), some (.tup (rs.map rwD)), some (.ref a), some (rwD r), q4, q5, q6] s' ∧ s'[o]? = some (.lst ((swS cur (lowR r)).map D.int)) ∧ s'.length = S.length ∧ ∀ j, j ≠ o → s'[j]? = S[j]? := by
  have hlt := low_lt hr
  have hmx : (if (r.y : Int) > r.x then (r.y : Int) else r.x) = (lowR r : Int) + 1 := by
    unfold lowR
    obtain ⟨_, _, h3⟩ := hr
    split <;> omega
  have ib : ∀ (b : Bool) (s : Store), intG [.bl b] s = .ok (.int (if b then 1 else 0)) s := fun b s => by cases b <;> rfl
  have pk : getD (.ref a) (.int (if decide ((r.y : Int) < r.x) then 1 else 0)) S = .ok (.ref o) S := by
    obtain ⟨_, _, h3⟩ := hr
    by_cases c : r.x < r.y
    · have c' : ¬ (r.y : Int) < r.x := by omega
      have e : o = p := by rw [ho]; unfold lftR; rw [if_pos (by simpa using c)]
      rw [decide_eq_false c', e]
      exact getD_r (k := 0) ha rfl rfl
    · have c' : (r.y : Int) < r.x := by omega
      have e : o = q := by rw [ho]; unfold lftR; rw [if_neg (by simpa using c)]
      rw [decide_eq_true c', e]
      exact getD_r (k := 1) ha rfl rfl
  have g0 : getD (.ref o) (.int (lowR r)) S = .ok (.int (cur.getD (lowR r) 0)) S := getD_r (k := lowR r) hS rfl (by rw [List.getElem?_map, List.getElem?_eq_getElem (by omega), gD (by omega)]; rfl)
  have g1 : getD (.ref o) (.int ((lowR r : Int) + 1)) S = .ok (.int (cur.getD (lowR r + 1) 0)) S := getD_r (k := lowR r + 1) hS (by omega) (by rw [List.getElem?_map, List.getElem?_eq_getElem (by omega), gD (by omega)]; rfl)
  have ec : (lowR r : Int) + 1 - 1 = lowR r := by omega
  have x0 : ∀ ys : List D, ys.length = N → ixN ys.length (lowR r : Int) = some (lowR r) := fun ys hy => by
    unfold ixN
    rw [if_pos (by omega), if_pos (by omega)]
    simp
  have x1 : ∀ ys : List D, ys.length = N → ixN ys.length ((lowR r : Int) + 1) = some (lowR r + 1) := fun ys hy => by
    unfold ixN
    rw [if_pos (by omega), if_pos (by omega)]
    congr 1
  have ol := (List.getElem?_eq_some_iff.mp hS).1
  have hsw := sw_law (l := cur) (c := lowR r) (by omega)
  have hset : ((cur.set (lowR r) (cur.getD (lowR r + 1) 0)).set (lowR r + 1) (cur.getD (lowR r) 0)) = ((cur.set (lowR r + 1) (cur.getD (lowR r) 0)).set (lowR r) (cur.getD (lowR r + 1) 0)) := List.set_comm _ _ (by omega)
  rw [hset] at hsw
  have x1' := x1 (cur.map D.int) (by simpa using hlen)
  have x0' := x0 ((cur.map D.int).set (lowR r + 1) (.int (cur.getD (lowR r) 0))) (by simpa using hlen)
  rw [← hsw]
  revert g0 g1 x0'
  generalize cur.getD (lowR r) 0 = u
  generalize cur.getD (lowR r + 1) 0 = v
  intro g0 g1 x0'
  have s0 : lq1_0 [some (.int N), some (.tup (rs.map rwD)), some (.ref a), some (rwD r), o4, o5, o6] S = .next [some (.int N), some (.tup (rs.map rwD)), some (.ref a), some (rwD r), some (.ref o), o5, o6] S := by
    unfold lq1_0 lq1_0e
    have lt : ∀ s, ltD (.int (r.y : Int)) (.int (r.x : Int)) s = .ok (.bl (decide ((r.y : Int) < r.x))) s := fun s => by simp
    simp only [sSet_ap, e2_ap, eVar_ap, eB_ap, lCons_ap, lNil_ap, eC_ap, R.bind_ok, List.getElem?_cons_succ, List.getElem?_cons_zero, rw0, rw1, lt, ib, pk, sOf_ok]
    rfl
  have s1 : lq1_1 [some (.int N), some (.tup (rs.map rwD)), some (.ref a), some (rwD r), some (.ref o), o5, o6] S = .next [some (.int N), some (.tup (rs.map rwD)), some (.ref a), some (rwD r), some (.ref o), some (.int ((lowR r : Int) + 1)), o6] S := by
    unfold lq1_1 lq1_1e
    rw [← hmx]
    simp [rw0, rw1]
  by_cases c : u < v
  · refine ⟨some (.ref o), some (.int ((lowR r : Int) + 1)), some (.int v), S.set o (.lst (((cur.set (lowR r + 1) u).set (lowR r) v).map D.int)), ?_, ?_, by simp, fun j hj => List.getElem?_set_ne (Ne.symm hj)⟩
    · unfold lq1b
      rw [sqN s0, sqN s1]
      unfold lq1_2
      have hS2 : (S.set o (.lst ((cur.map D.int).set (lowR r + 1) (.int u))))[o]? = some (.lst ((cur.map D.int).set (lowR r + 1) (.int u))) := List.getElem?_set_self ol
      have x0'' : ixN cur.length (lowR r : Int) = some (lowR r) := by simpa using x0'
      have x1'' : ixN cur.length ((lowR r : Int) + 1) = some (lowR r + 1) := by simpa using x1'
      simp [ec, g0, g1, c, hS, x1'', x0'', hS2, List.map_set]
    · rw [List.getElem?_set_self ol, if_pos c]
  · refine ⟨some (.ref o), some (.int ((lowR r : Int) + 1)), o6, S, ?_, ?_, rfl, fun j _ => rfl⟩
    · unfold lq1b
      rw [sqN s0, sqN s1]
      unfold lq1_2
      simp [ec, g0, g1, c]
    · rw [if_neg c]; exact hS
theorem law_orders_pr (hN : N ≤ 12) (hrs : ∀ r ∈ rs, RwOk N r) : gcH st (m__law_orders [.int N, .tup (rs.map rwD)] st) = .ok (prW (ordS true (begS N) rs) (ordS false (begS N) rs)) st := by
  have z2 : 2 ≤ sizeLine := szl (by omega)
  have rk := rgOkN (N := N) (by omega)
  have k0 : lq0 [some (.int N), some (.tup (rs.map rwD)), none, none, none, none, none] st = .next [some (.int N), some (.tup (rs.map rwD)), some (.ref (st.length + 2)), none, none, none, none] (st ++ [.lst ((begS N).map D.int), .lst ((begS N).map D.int), .lst [.ref st.length, .ref (st.length + 1)]]) := by
    unfold lq0 lq0l
    simp [okIf_pos rk, okIf_pos z2, beg_rng]
  have k1 : ∃ o3 o4 o5 o6 S', lq1 [some (.int N), some (.tup (rs.map rwD)), some (.ref (st.length + 2)), none, none, none, none] (st ++ [.lst ((begS N).map D.int), .lst ((begS N).map D.int), .lst [.ref st.length, .ref (st.length + 1)]]) = .next [some (.int N), some (.tup (rs.map rwD)), some (.ref (st.length + 2)), o3, o4, o5, o6] S' ∧ S'[st.length]? = some (.lst ((ordS true (begS N) rs).map D.int)) ∧ S'[st.length + 1]? = some (.lst ((ordS false (begS N) rs).map D.int)) ∧ S'[st.length + 2]? = some (.lst [.ref st.length, .ref (st.length + 1)]) ∧ ∀ j, j < st.length → S'[j]? = st[j]? := by
    have it : iSeqF (eVar 1) [some (.int N), some (.tup (rs.map rwD)), some (.ref (st.length + 2)), none, none, none, none] (st ++ [.lst ((begS N).map D.int), .lst ((begS N).map D.int), .lst [.ref st.length, .ref (st.length + 1)]]) = .ok (rs.map rwD, []) (st ++ [.lst ((begS N).map D.int), .lst ((begS N).map D.int), .lst [.ref st.length, .ref (st.length + 1)]]) := by simp
    unfold lq1
    rw [sFor_ap, it]
    simp only [sOf_ok]
    rw [if_pos (by simp)]
    generalize hq : loopF _ _ _ _ _ _ = r
    obtain ⟨e, s', rfl, o3, o4, o5, o6, rfl, h0, h1, h2, hj⟩ := loopF_next hq (fun i env s => ∃ o3 o4 o5 o6 : Option D, env = [some (.int N), some (.tup (rs.map rwD)), some (.ref (st.length + 2)), o3, o4, o5, o6] ∧ s[st.length]? = some (.lst ((ordS true (begS N) (rs.take i)).map D.int)) ∧ s[st.length + 1]? = some (.lst ((ordS false (begS N) (rs.take i)).map D.int)) ∧ s[st.length + 2]? = some (.lst [.ref st.length, .ref (st.length + 1)]) ∧ ∀ j, j < st.length → s[j]? = st[j]?) ⟨none, none, none, none, rfl, by rw [List.getElem?_append_right (Nat.le_refl _), Nat.sub_self]; rfl, by rw [List.getElem?_append_right (by omega), show st.length + 1 - st.length = 1 from by omega]; rfl, by rw [List.getElem?_append_right (by omega), show st.length + 2 - st.length = 2 from by omega]; rfl, fun j hj => List.getElem?_append_left hj⟩ fun i d env s hI hd => by
      obtain ⟨o3, o4, o5, o6, rfl, h0, h1, h2, hj⟩ := hI
      rw [List.getElem?_map] at hd
      cases hri : rs[i]? with
      | none => rw [hri] at hd; cases hd
      | some r =>
        rw [hri] at hd
        cases hd
        have et : rs.take (i + 1) = rs.take i ++ [r] := by rw [List.take_add_one, hri]; rfl
        have hr := hrs r (List.mem_of_getElem? hri)
        have lT := ord_len true (rs.take i) (begS N)
        have lF := ord_len false (rs.take i) (begS N)
        rw [beg_len] at lT lF
        rw [et, ord_snoc, ord_snoc]
        cases hlf : lftR r with
        | true =>
          obtain ⟨q4, q5, q6, s', hb, g1, g2, g3⟩ := lqb_ok (S := s) (rs := rs) (a := st.length + 2) (p := st.length) (q := st.length + 1) (o := st.length) (o4 := o4) (o5 := o5) (o6 := o6) hr lT hN h2 (by rw [hlf]; rfl) h0
          refine ⟨_, asgT_name _ _ _, _, s', .inl hb, by simp, _, q4, q5, q6, rfl, ?_, ?_, by rw [g3 _ (by omega)]; exact h2, fun j hj' => by rw [g3 j (by omega)]; exact hj j hj'⟩
          · simpa using g1
          · rw [g3 _ (by omega)]; simpa using h1
        | false =>
          obtain ⟨q4, q5, q6, s', hb, g1, g2, g3⟩ := lqb_ok (S := s) (rs := rs) (a := st.length + 2) (p := st.length) (q := st.length + 1) (o := st.length + 1) (o4 := o4) (o5 := o5) (o6 := o6) hr lF hN h2 (by rw [hlf]; rfl) h1
          refine ⟨_, asgT_name _ _ _, _, s', .inl hb, by simp, _, q4, q5, q6, rfl, ?_, ?_, by rw [g3 _ (by omega)]; exact h2, fun j hj' => by rw [g3 j (by omega)]; exact hj j hj'⟩
          · rw [g3 _ (by omega)]; simpa using h0
          · simpa using g1
    rw [List.length_map, List.take_length] at h0 h1
    exact ⟨o3, o4, o5, o6, s', rfl, h0, h1, h2, hj⟩
  obtain ⟨o3, o4, o5, o6, S', k1, h0, h1, h2, hj⟩ := k1
  have p0 : getD (.ref (st.length + 2)) (.int 0) S' = .ok (.ref st.length) S' := getD_r (k := 0) h2 rfl rfl
  have p1 : getD (.ref (st.length + 2)) (.int 1) S' = .ok (.ref (st.length + 1)) S' := getD_r (k := 1) h2 rfl rfl
  have k2 : lq2 [some (.int N), some (.tup (rs.map rwD)), some (.ref (st.length + 2)), o3, o4, o5, o6] S' = .ret (prW (ordS true (begS N) rs) (ordS false (begS N) rs)) S' := by
    unfold lq2 lq2e prW tD
    generalize (ordS true (begS N) rs).map D.int = A at *
    generalize (ordS false (begS N) rs).map D.int = B at *
    simp [p0, p1, h0, h1, okIf_pos z2]
  have run : m__law_orders [.int N, .tup (rs.map rwD)] st = .ok (prW (ordS true (begS N) rs) (ordS false (begS N) rs)) S' := by
    have ee : (List.map some [D.int N, .tup (rs.map rwD)] ++ List.replicate (7 - [D.int N, .tup (rs.map rwD)].length) none : AEnv) = [some (.int N), some (.tup (rs.map rwD)), none, none, none, none, none] := rfl
    rw [lq_cut]
    simp only [runDef_ap]
    rw [ee, sqN k0, sqN k1, k2]
  rw [run]
  exact gc_back hj (by simp [prW, tD, closed, closeds, closeds_ints])
theorem inv_sum : ∀ l : List Int, (((List.range l.length).map fun i => ((l.drop (i + 1)).filter fun y => decide (y < l.getD i 0)).length).sum) = invI l
  | [] => rfl
  | x :: l => by
    rw [List.length_cons, List.range_succ_eq_map, List.map_cons, List.sum_cons, List.map_map]
    have ih := inv_sum l
    have e : (List.range l.length).map ((fun i => (((x :: l).drop (i + 1)).filter fun y => decide (y < (x :: l).getD i 0)).length) ∘ Nat.succ) = (List.range l.length).map fun i => ((l.drop (i + 1)).filter fun y => decide (y < l.getD i 0)).length := List.map_congr_left fun i _ => rfl
    rw [e, ih]
    rfl
theorem inv_pairs : ∀ l : List Int, 2 * invI l + l.length ≤ l.length * l.length
  | [] => Nat.le_refl _
  | x :: l => by
    have ih := inv_pairs l
    have := List.length_filter_le (fun y => decide (y < x)) l
    simp only [invI, List.length_cons, Nat.add_mul, Nat.mul_add]
    omega
theorem inv_small (l : List Int) (h : l.length ≤ 4) : invI l ≤ 6 := by
  have := inv_pairs l
  have h4 : l.length * l.length ≤ 4 * l.length := Nat.mul_le_mul_right _ h
  omega
theorem turned_ok (hl : l.length ≤ 12) : gcH st (m__law_turned [.tup (l.map D.int)] st) = .ok (.int (invI l)) st := by
  have zl : l.length ≤ sizeLine := szl (by omega)
  have inner : ∀ i, i < l.length → eQ lenG (compF [2] (iSeqF (eSl (eVar 0) (oSome (e2 addD (eVar 1) (eC (.int 1)))) oNone)) (.name 2) (bB (e2 ltD (eVar 2) (e2 getD (eVar 0) (eVar 1)))) (eVar 2)) [some (.tup (l.map D.int)), some (.int (i : Int)), none] st = .ok (.int ((((l.drop (i + 1)).filter fun y => decide (y < l.getD i 0)).length : Nat) : Int)) st := fun i hi => by
    have g0 := getD_i (st := st) (xs := l) (k := i) (j := (i : Int)) rfl hi
    have cl := cut_lo (l.map D.int) (i + 1)
    have e1 : ((i + 1 : Nat) : Int) = (i : Int) + 1 := by omega
    rw [e1, ← List.map_drop] at cl
    have zd : (l.drop (i + 1)).length ≤ sizeLine := by rw [List.length_drop]; exact szl (by omega)
    generalize hv : l.getD i 0 = v at *
    have it : iSeqF (eSl (eVar 0) (oSome (e2 addD (eVar 1) (eC (.int 1)))) oNone) [some (.tup (l.map D.int)), some (.int (i : Int)), none] st = .ok ((l.drop (i + 1)).map D.int, []) st := by
      simp [cl]
    have cc : compF [2] (iSeqF (eSl (eVar 0) (oSome (e2 addD (eVar 1) (eC (.int 1)))) oNone)) (.name 2) (bB (e2 ltD (eVar 2) (e2 getD (eVar 0) (eVar 1)))) (eVar 2) [some (.tup (l.map D.int)), some (.int (i : Int)), none] st = .ok (((l.drop (i + 1)).filter fun y => decide (y < v)).map D.int) st := by
      rw [compF_ap, it]
      simp only [R.bind_ok]
      rw [okIf_pos ⟨by simp, by simpa using zd⟩]
      rw [compL_mapE rfl (by simp) (fun d => decide (intOf d < v)) (fun d => d) (fun d hd => by
        obtain ⟨y, _, rfl⟩ := List.mem_map.mp hd
        refine ⟨_, asgT_name _ _ _, ?_, fun _ => by simp⟩
        simp [g0]
        rfl)]
      rw [List.map_id'' (fun _ => rfl), filter_ints (fun y => decide (y < v)) _ (fun _ => rfl)]
      rfl
    rw [eQ_ap, cc]
    simp
  have run : m__law_turned [.tup (l.map D.int)] st = .ok (.int (invI l)) st := by
    have ee : (List.map some [D.tup (l.map D.int)] ++ List.replicate (3 - [D.tup (l.map D.int)].length) none : AEnv) = [some (.tup (l.map D.int)), none, none] := rfl
    rw [m__law_turned_eq]
    simp only [runDef_ap]
    rw [ee]
    have it : iRng1F (lCons (eQ lenG (lRd (eVar 0))) lNil) [some (.tup (l.map D.int)), none, none] st = .ok (rangeD 0 l.length, []) st := by
      simp [rngR_nat (n := l.length) (show l.length ≤ 1000000 by omega)]
    have cc : compF [1] (iRng1F (lCons (eQ lenG (lRd (eVar 0))) lNil)) (.name 1) bYes (eQ lenG (compF [2] (iSeqF (eSl (eVar 0) (oSome (e2 addD (eVar 1) (eC (.int 1)))) oNone)) (.name 2) (bB (e2 ltD (eVar 2) (e2 getD (eVar 0) (eVar 1)))) (eVar 2))) [some (.tup (l.map D.int)), none, none] st = .ok (((List.range l.length).map fun i => ((((l.drop (i + 1)).filter fun y => decide (y < l.getD i 0)).length : Nat) : Int)).map D.int) st := by
      rw [compF_ap, it]
      simp only [R.bind_ok]
      rw [okIf_pos ⟨by simp, by simpa using zl⟩]
      generalize hr : compL _ _ _ _ _ _ _ = r
      obtain ⟨ys, s, rfl, rfl, rfl⟩ := compL_ok hr (fun i acc s => acc = ((List.range i).map fun i => ((((l.drop (i + 1)).filter fun y => decide (y < l.getD i 0)).length : Nat) : Int)).map D.int ∧ s = st) ⟨rfl, rfl⟩ fun i d acc s hI hd => by
        obtain ⟨rfl, rfl⟩ := hI
        obtain ⟨rfl, hi⟩ := rangeD_get' hd
        refine ⟨_, asgT_name _ _ _, .inl ⟨_, s, s, rfl, inner i hi, by simp, ?_, rfl⟩⟩
        rw [List.range_succ, List.map_append, List.map_append]
        rfl
      rw [rangeD_lenS]
      rfl
    have sm : ∀ ns : List Nat, sumG ((ns.map fun (x : Nat) => (x : Int)).map D.int) st = .ok (.int ((ns.sum : Nat) : Int)) st := fun ns => by
      rw [sumG_ints]
      congr 2
      induction ns with
      | nil => rfl
      | cons x xs ih => simp only [List.map_cons, List.sum_cons, ih]; omega
    rw [sRet_ap, eQ_ap, cc]
    simp only [R.bind_ok]
    have := sm ((List.range l.length).map fun i => ((l.drop (i + 1)).filter fun y => decide (y < l.getD i 0)).length)
    rw [inv_sum] at this
    have e9 : ((List.range l.length).map fun i => ((((l.drop (i + 1)).filter fun y => decide (y < l.getD i 0)).length : Nat) : Int)) = ((List.range l.length).map fun i => ((l.drop (i + 1)).filter fun y => decide (y < l.getD i 0)).length).map fun (x : Nat) => (x : Int) := by rw [List.map_map]; rfl
    rw [e9, this]
    rfl
  rw [run]
  exact gcR_int _
theorem pk2 {q w : Nat} {a b : D} (h : st[q]? = some (.lst [a, b])) (hw : w < 2) : getD (.ref q) (.int (w : Int)) st = .ok (if w = 0 then a else b) st := by
  match w, hw with
  | 0, _ => exact getD_r h rfl rfl
  | 1, _ => exact getD_r h rfl rfl
def pairR (low w : Nat) : Rw := if w = 0 then ⟨low, low + 1, false⟩ else ⟨low + 1, low, false⟩
theorem rqb_ok {q i : Nat} {o2 o6 o7 : Option D} (hD : Dice n k S) (hk : k < 900000) (hN : 2 ≤ N) (h12 : N ≤ 12) (hq : S[q]? = some (.lst (rs.map rwD))) (hqn : n < q) (hl : rs.length ≤ 1000) :
    ∃ r q6 q7 S', rq2b [some (.ref n), some (.int N), o2, some (.int 0), some (.ref q), some (.int (i : Int)), o6, o7] S = .next [some (.ref n), some (.int N), o2, some (.int 0), some (.ref q), some (.int (i : Int)), q6, q7] S' ∧ S'[q]? = some (.lst ((rs ++ [r]).map rwD)) ∧ RwOk N r ∧ r.f = false ∧ Dice n (k + 3) S' ∧ S.length ≤ S'.length ∧ ∀ j, j < S.length → j ≠ n → j ≠ q → S'[j]? = S[j]? := by
  have z2 : 2 ≤ sizeLine := szl (by omega)
  have z1 : 1 ≤ sizeLine := szl (by omega)
  have z3 : 2 + 1 ≤ sizeLine := szl (by omega)
  have ql := (List.getElem?_eq_some_iff.mp hq).1
  obtain ⟨low, s1, h1, l0, l1, D1, S1⟩ := draw_ok (s := (N : Int) - 1) hD (by omega) (by omega) (by omega)
  obtain ⟨low, rfl⟩ : ∃ x : Nat, low = x := ⟨low.toNat, by omega⟩
  have s0 : rq2_0 [some (.ref n), some (.int N), o2, some (.int 0), some (.ref q), some (.int (i : Int)), o6, o7] S = .next [some (.ref n), some (.int N), o2, some (.int 0), some (.ref q), some (.int (i : Int)), some (.int low), o7] s1 := by
    unfold rq2_0 rq2_0e
    simp [h1]
  obtain ⟨w, s2, h2, w0, w1, D2, S2⟩ := draw_ok (s := 2) (D1.app [AO.lst [.tup [.int low, .int ((low : Int) + 1)], .tup [.int ((low : Int) + 1), .int low]]]) (by omega) (by omega) (by omega)
  obtain ⟨w, rfl⟩ : ∃ x : Nat, w = x := ⟨w.toNat, by omega⟩
  have hp : s2[s1.length]? = some (.lst [.tup [.int low, .int ((low : Int) + 1)], .tup [.int ((low : Int) + 1), .int low]]) := by
    rw [S2.2 s1.length (by have := D1.lt; omega)]
    exact List.getElem?_concat_length
  have pk := pk2 hp (show w < 2 by omega)
  have s1' : rq2_1 [some (.ref n), some (.int N), o2, some (.int 0), some (.ref q), some (.int (i : Int)), some (.int low), o7] s1 = .next [some (.ref n), some (.int N), o2, some (.int 0), some (.ref q), some (.int (i : Int)), some (.int low), some (if w = 0 then .tup [.int low, .int ((low : Int) + 1)] else .tup [.int ((low : Int) + 1), .int low])] s2 := by
    unfold rq2_1 rq2_1e
    generalize (if w = 0 then D.tup [.int low, .int ((low : Int) + 1)] else .tup [.int ((low : Int) + 1), .int low]) = P at *
    simp [okIf_pos z2, h2, pk]
  obtain ⟨z, s3, h3, z0, _, D3, S3⟩ := draw_ok (s := 12) D2 (by omega) (by omega) (by omega)
  have e2 : s2[q]? = some (.lst (rs.map rwD)) := by
    rw [S2.2 q (by omega), List.getElem?_append_left (by have := S1.1; omega), S1.2 q (by omega)]; exact hq
  have e3 : s3[q]? = some (.lst (rs.map rwD)) := by rw [S3.2 q (by omega)]; exact e2
  have hz : ¬ z < 0 := by omega
  have ad : ∀ s : Store, addD (if w = 0 then D.tup [.int low, .int ((low : Int) + 1)] else .tup [.int ((low : Int) + 1), .int low]) (.tup [.bl false]) s = .ok (rwD (pairR low w)) s := fun s => by
    unfold pairR
    by_cases c : w = 0
    · simp [c, okIf_pos z3, rwD]
    · simp [c, okIf_pos z3, rwD]
  have ap := appendG_ref (d := rwD (pairR low w)) e3 (by
    have q : rs.length + 1 ≤ sizeLine := szl (by omega)
    rw [List.length_map]
    omega)
  have il : isLst (.ref q) s2 = true := by simp only [isLst, e2]
  have s2' : rq2_2 [some (.ref n), some (.int N), o2, some (.int 0), some (.ref q), some (.int (i : Int)), some (.int low), some (if w = 0 then .tup [.int low, .int ((low : Int) + 1)] else .tup [.int ((low : Int) + 1), .int low])] s2 = .next [some (.ref n), some (.int N), o2, some (.int 0), some (.ref q), some (.int (i : Int)), some (.int low), some (if w = 0 then .tup [.int low, .int ((low : Int) + 1)] else .tup [.int ((low : Int) + 1), .int low])] (s3.set q (.lst (rs.map rwD ++ [rwD (pairR low w)]))) := by
    unfold rq2_2 rq2_2e
    generalize (if w = 0 then D.tup [.int low, .int ((low : Int) + 1)] else .tup [.int ((low : Int) + 1), .int low]) = P at *
    simp [il, h3, hz, okIf_pos z1, ad, ap]
  have l3 : S.length ≤ s3.length := by
    have a1 := S1.1
    have a2 := S2.1
    have a3 := S3.1
    simp at a2
    omega
  have q3 : q < s3.length := by omega
  refine ⟨pairR low w, some (.int low), some (if w = 0 then .tup [.int low, .int ((low : Int) + 1)] else .tup [.int ((low : Int) + 1), .int low]), s3.set q (.lst (rs.map rwD ++ [rwD (pairR low w)])), ?_, ?_, ?_, ?_, (D3.put hqn).mono (by omega), by simpa using l3, fun j hj hn hq' => ?_⟩
  · unfold rq2b
    rw [sqN s0, sqN s1', s2']
  · rw [List.getElem?_set_self q3]
    simp
  · unfold pairR
    split
    · exact ⟨by show low < N; omega, by show low + 1 < N; omega, .inl rfl⟩
    · exact ⟨by show low + 1 < N; omega, by show low < N; omega, .inr rfl⟩
  · unfold pairR
    split <;> rfl
  · rw [List.getElem?_set_ne (Ne.symm hq'), S3.2 j hn, S2.2 j hn, List.getElem?_append_left (by have := S1.1; omega), S1.2 j hn]
theorem rows_okL {M : Nat} (hD : Dice n k S) (hk : k < 9000) (h1 : 1 ≤ N) (h12 : N ≤ 12) (hM : M ≤ 60) :
    ∃ (rs : List Rw) (s2 : Store), gcH S (m__law_rows [.ref n, .int N, .int M, .int 0] S) = .ok (.tup (rs.map rwD)) s2 ∧ (∀ r ∈ rs, RwOk N r) ∧ (∀ r ∈ rs, r.f = false) ∧ rs.length ≤ M ∧ Dice n (k + 1 + 3 * M) s2 ∧ SameBut n S s2 := by
  have z0 : 0 ≤ sizeLine := Nat.zero_le _
  have hlt := hD.lt
  have ee : (List.map some [D.ref n, .int N, .int M, .int 0] ++ List.replicate (8 - [D.ref n, .int N, .int M, .int 0].length) none : AEnv) = [some (.ref n), some (.int N), some (.int M), some (.int 0), none, none, none, none] := rfl
  by_cases c : N = 1
  · refine ⟨[], S, ?_, by simp, by simp, Nat.zero_le _, hD.mono (by omega), .refl⟩
    have e : m__law_rows [.ref n, .int N, .int M, .int 0] S = .ok (.tup []) S := by
      rw [rq_cut]
      simp only [runDef_ap]
      rw [ee]
      unfold rq0
      subst c
      simp [okIf_pos z0]
    rw [e]
    exact gcR_same rfl
  have c' : ¬ ((N : Int) = 1) := by omega
  have k0 : rq0 [some (.ref n), some (.int N), some (.int M), some (.int 0), none, none, none, none] S = .next [some (.ref n), some (.int N), some (.int M), some (.int 0), none, none, none, none] S := by
    unfold rq0
    simp [c']
  have k1 : rq1 [some (.ref n), some (.int N), some (.int M), some (.int 0), none, none, none, none] S = .next [some (.ref n), some (.int N), some (.int M), some (.int 0), some (.ref S.length), none, none, none] (S ++ [.lst (([] : List Rw).map rwD)]) := by
    unfold rq1 rq1l
    simp [okIf_pos z0]
  obtain ⟨b, s1, hb, b0, b1, D1, S1⟩ := draw_ok (s := (M : Int) + 1) (hD.app [AO.lst (([] : List Rw).map rwD)]) (by omega) (by omega) (by omega)
  obtain ⟨m, rfl⟩ : ∃ x : Nat, b = x := ⟨b.toNat, by omega⟩
  have e1 : s1[S.length]? = some (.lst (([] : List Rw).map rwD)) := by rw [S1.2 _ (by omega)]; exact List.getElem?_concat_length
  have l1 : s1.length = S.length + 1 := by have := S1.1; simpa using this
  have k2 : ∃ (rs : List Rw) (o5 o6 o7 : Option D) (S' : Store), rq2 [some (.ref n), some (.int N), some (.int M), some (.int 0), some (.ref S.length), none, none, none] (S ++ [.lst (([] : List Rw).map rwD)]) = .next [some (.ref n), some (.int N), some (.int M), some (.int 0), some (.ref S.length), o5, o6, o7] S' ∧ S'[S.length]? = some (.lst (rs.map rwD)) ∧ (∀ r ∈ rs, RwOk N r) ∧ (∀ r ∈ rs, r.f = false) ∧ rs.length = m ∧ Dice n (k + 1 + 3 * M) S' ∧ Near n S S' := by
    have it : iRng1F (lCons (eCall m__law_draw (lCons (eVar 0) (lCons (e2 addD (eVar 2) (eC (.int 1))) lNil))) lNil) [some (.ref n), some (.int N), some (.int M), some (.int 0), some (.ref S.length), none, none, none] (S ++ [.lst (([] : List Rw).map rwD)]) = .ok (rangeD 0 m, []) s1 := by
      generalize S ++ [AO.lst (([] : List Rw).map rwD)] = S0 at *
      simp [hb, rngR_nat (n := m) (show m ≤ 1000000 by omega)]
    unfold rq2
    rw [sFor_ap, it]
    simp only [sOf_ok]
    rw [if_pos (by simp)]
    generalize hq : loopF _ _ _ _ _ _ = r'
    obtain ⟨e, s', rfl, rs, o5, o6, o7, rfl, h1, h2, h3, h4, h5, h6, h7⟩ := loopF_next hq (fun i env s => ∃ (rs : List Rw) (o5 o6 o7 : Option D), env = [some (.ref n), some (.int N), some (.int M), some (.int 0), some (.ref S.length), o5, o6, o7] ∧ s[S.length]? = some (.lst (rs.map rwD)) ∧ (∀ r ∈ rs, RwOk N r) ∧ (∀ r ∈ rs, r.f = false) ∧ rs.length = i ∧ Dice n (k + 1 + 3 * i) s ∧ S.length + 1 ≤ s.length ∧ ∀ j, j < S.length → j ≠ n → s[j]? = S[j]?) ⟨[], none, none, none, rfl, e1, by simp, by simp, rfl, D1.mono (by omega), by omega, fun j hj hn => by rw [S1.2 j hn, List.getElem?_append_left hj]⟩ fun i d env s hI hd => by
      obtain ⟨rs, o5, o6, o7, rfl, h1, h2, h3, h4, h5, h6, h7⟩ := hI
      obtain ⟨rfl, hi⟩ := rangeD_get' hd
      obtain ⟨r, q6, q7, S', hb, g1, g2, g3, g4, g5, g6⟩ := rqb_ok (o2 := some (.int M)) (o6 := o6) (o7 := o7) (i := i) h5 (by omega) (show 2 ≤ N by omega) h12 h1 hlt (by omega)
      refine ⟨_, asgT_name _ _ _, _, S', .inl hb, by simp, rs ++ [r], some (.int (i : Int)), q6, q7, rfl, g1, fun r' hr' => ?_, fun r' hr' => ?_, by simp [h4], g4.mono (by omega), by omega, fun j hj hn => by rw [g6 j (by omega) hn (by omega)]; exact h7 j hj hn⟩
      · rcases List.mem_append.mp hr' with h | h
        · exact h2 r' h
        · rw [List.mem_singleton.mp h]; exact g2
      · rcases List.mem_append.mp hr' with h | h
        · exact h3 r' h
        · rw [List.mem_singleton.mp h]; exact g3
    rw [rangeD_lenS] at h4 h5
    exact ⟨rs, o5, o6, o7, s', rfl, h1, h2, h3, h4, h5.mono (by omega), ⟨by omega, h7⟩⟩
  obtain ⟨rs, o5, o6, o7, S', k2, g1, g2, g3, g4, g5, g6⟩ := k2
  have k3 : rq3 [some (.ref n), some (.int N), some (.int M), some (.int 0), some (.ref S.length), o5, o6, o7] S' = .ret (.tup (rs.map rwD)) S' := by
    unfold rq3 rq3e
    simp [g1]
  have run : m__law_rows [.ref n, .int N, .int M, .int 0] S = .ok (.tup (rs.map rwD)) S' := by
    rw [rq_cut]
    simp only [runDef_ap]
    rw [ee, sqN k0, sqN k1, sqN k2, k3]
  obtain ⟨s7, h7, D7, S7⟩ := gc_near (d := .tup (rs.map rwD)) g5 hlt g6 (by simp only [closed, rw_closed])
  exact ⟨rs, s7, by rw [run, h7], g2, g3, by omega, D7, S7⟩
end
end TK

set_option Elab.async false
set_option linter.all false
set_option maxRecDepth 100000
set_option maxHeartbeats 4000000
namespace TK
open PySem PySem.Spec
open PyProof.Rows hiding St
open L2
/-! # the final sheets, by all doings -/
section
variable {st S : Store} {n p q N c : Nat} {k : Int} {x y : List Int} {rs qs : List Rw} {J K : List (List Int)} {es : List (Option Nat)} {fs gs : List Bool} {r : Rw}
def tI (x : List Int) : D := .tup (x.map D.int)
def kvT (J : List (List Int)) : List (D × D) := J.map fun x => (tI x, .bl true)
theorem keyS_ints : ∀ x : List Int, ∃ k, keySs (x.map D.int) = some k
  | [] => ⟨[], rfl⟩
  | a :: x => by
    obtain ⟨k, hk⟩ := keyS_ints x
    cases h : keyS (D.int a) with
    | none => simp [keyS] at h
    | some c => exact ⟨c :: k, by simp only [List.map_cons, keySs, h, hk]⟩
theorem keyS_inj : ∀ {x y : List Int}, keySs (x.map D.int) = keySs (y.map D.int) → x = y
  | [], [], _ => rfl
  | [], b :: y, h => by
    obtain ⟨k, hk⟩ := keyS_ints y
    simp [keySs, keyS, hk] at h
  | a :: x, [], h => by
    obtain ⟨k, hk⟩ := keyS_ints x
    simp [keySs, keyS, hk] at h
  | a :: x, b :: y, h => by
    obtain ⟨k, hk⟩ := keyS_ints x
    obtain ⟨k2, hk2⟩ := keyS_ints y
    simp only [List.map_cons, keySs, keyS, hk, hk2] at h
    simp at h
    obtain ⟨h1, h2⟩ := h
    have ih := keyS_inj (x := x) (y := y) (by rw [hk, hk2, h2])
    subst ih
    simp_all
def addJ (J : List (List Int)) (x : List Int) : List (List Int) := if x ∈ J then J else J ++ [x]
theorem mem_add : y ∈ addJ J x ↔ y ∈ J ∨ y = x := by
  unfold addJ
  split
  · rename_i h
    exact ⟨.inl, fun z => z.elim id fun e => e ▸ h⟩
  · simp
theorem len_add : (addJ J x).length ≤ J.length + 1 := by
  unfold addJ
  split
  · omega
  · simp
theorem put_kvT {k : List Key} (hk : keyT (tI x) = some k) : putKs keyT (tI x) k (.bl true) (kvT J) = kvT (addJ J x) := by
  have inj : ∀ z : List Int, keyT (tI z) = some k → z = x := fun z hz => keyS_inj (by
    have a : keySs (z.map D.int) = some k := hz
    have b : keySs (x.map D.int) = some k := hk
    rw [a, b])
  have g : ∀ J : List (List Int), getKs keyT k (kvT J) = if x ∈ J then some (.bl true) else none := fun J => by
    induction J with
    | nil => rfl
    | cons z J ih =>
      unfold kvT at ih ⊢
      rw [List.map_cons, getKs, ih]
      by_cases c : keyT (tI z) = some k
      · have := inj z c
        subst this
        simp [c]
      · have c' : ¬ x = z := fun e => c (e ▸ hk)
        rw [if_neg c]
        simp [c']
  have s : ∀ J : List (List Int), setKs keyT k (.bl true) (kvT J) = kvT J := fun J => by
    induction J with
    | nil => rfl
    | cons z J ih =>
      unfold kvT at ih ⊢
      rw [List.map_cons, setKs, ih]
      by_cases c : keyT (tI z) = some k
      · rw [if_pos c]
      · rw [if_neg c]
  unfold putKs
  rw [g]
  unfold addJ
  by_cases c : x ∈ J
  · rw [if_pos c, if_pos c, s]
    rfl
  · rw [if_neg c, if_neg c]
    unfold kvT
    simp
theorem keyT_tI (x : List Int) : ∃ k, keyT (tI x) = some k := keyS_ints x
theorem kvT_fst (J : List (List Int)) : (kvT J).map (·.1) = J.map tI := by
  unfold kvT
  rw [List.map_map]
  rfl
/-- one doing's sheets led on -/
def finB (r : Rw) (J : List (List Int)) (x : List Int) : List (List Int) := if r.f then addJ J (cpL x r) else addJ (addJ J (cpL x r)) x
def finK (r : Rw) (K : List (List Int)) : List (List Int) := K.foldl (finB r) []
def finL (N : Nat) (rs : List Rw) : List (List Int) := rs.foldl (fun K r => finK r K) [begS N]
theorem mem_finB : y ∈ finB r J x ↔ y ∈ J ∨ y = cpL x r ∨ (r.f = false ∧ y = x) := by
  unfold finB
  cases r.f
  · simp only [Bool.false_eq_true, if_false, mem_add, true_and, or_assoc]
  · simp [mem_add]
theorem mem_fold : ∀ (K J : List (List Int)), y ∈ K.foldl (finB r) J ↔ y ∈ J ∨ ∃ x ∈ K, y = cpL x r ∨ (r.f = false ∧ y = x)
  | [], J => by simp
  | x :: K, J => by
    rw [List.foldl_cons, mem_fold K, mem_finB]
    simp only [List.mem_cons, exists_eq_or_imp, or_assoc]
theorem len_finB : (finB r J x).length ≤ J.length + 2 := by
  unfold finB
  split
  · exact Nat.le_trans len_add (by omega)
  · exact Nat.le_trans len_add (by have := len_add (J := J) (x := cpL x r); omega)
theorem len_fold : ∀ (K J : List (List Int)), (K.foldl (finB r) J).length ≤ J.length + 2 * K.length
  | [], J => by simp
  | x :: K, J => by
    rw [List.foldl_cons]
    have := len_fold K (finB r J x)
    have := len_finB (r := r) (J := J) (x := x)
    simp only [List.length_cons]
    omega
theorem finL_len : ∀ rs : List Rw, (finL N rs).length ≤ 2 ^ rs.length := fun rs => by
  refine rev_ind (P := fun rs => (finL N rs).length ≤ 2 ^ rs.length) (by simp [finL]) (fun rs r ih => ?_) rs
  unfold finL at ih ⊢
  rw [List.foldl_append]
  show (finK r (rs.foldl (fun K r => finK r K) [begS N])).length ≤ _
  generalize rs.foldl (fun K r => finK r K) [begS N] = Z at ih ⊢
  unfold finK
  have := len_fold (r := r) Z []
  have e2 : 2 ^ [r].length = 2 := rfl
  rw [List.length_append, Nat.pow_add, e2]
  simp only [List.length_nil, Nat.zero_add] at this
  omega
theorem ledS_appF {N : Nat} {rs : List Rw} {fs gs : List Bool} : ∀ m, m ≤ fs.length → ledS N rs (fs ++ gs) m = ledS N rs fs m
  | 0, _ => rfl
  | m + 1, h => by
    have ih := @ledS_appF N rs fs gs m (by omega)
    have e : (fs ++ gs)[m]? = fs[m]? := List.getElem?_append_left (by omega)
    rw [ledS, ledS, ih, e]
theorem finL_mem {i : Nat} (hi : i ≤ rs.length) : x ∈ finL N (rs.take i) ↔ ∃ g ∈ dosL (rs.take i), x = ledS N rs g i := by
  induction i generalizing x with
  | zero =>
    have e : dosL (rs.take 0) = [[]] := rfl
    rw [e]
    show x ∈ [begS N] ↔ _
    simp only [List.mem_singleton, exists_eq_left]
    rfl
  | succ i ih =>
    have hil : i < rs.length := hi
    have hr : rs[i]? = some rs[i] := List.getElem?_eq_getElem hil
    generalize rs[i] = r at hr
    have et : rs.take (i + 1) = rs.take i ++ [r] := by rw [List.take_add_one, hr]; rfl
    have ef : finL N (rs.take (i + 1)) = finK r (finL N (rs.take i)) := by unfold finL; rw [et, List.foldl_append]; rfl
    have ed : dosL (rs.take (i + 1)) = stepL (dosL (rs.take i)) r := by unfold dosL; rw [et, List.foldl_append]; rfl
    rw [ef, ed]
    unfold finK
    rw [mem_fold]
    have lg : ∀ g ∈ dosL (rs.take i), g.length = i := fun g hg => by
      have := doOk_len (dosL_mem.mp hg)
      rw [this, List.length_take]
      omega
    have l1 : ∀ g ∈ dosL (rs.take i), ∀ b : Bool, ledS N rs (g ++ [b]) (i + 1) = if b then cpL (ledS N rs g i) r else ledS N rs g i := fun g hg b => by
      have e : (g ++ [b])[i]? = some b := by rw [List.getElem?_append_right (by rw [lg g hg]; omega), lg g hg]; simp
      rw [ledS_suc hr e, ledS_appF i (by rw [lg g hg]; omega)]
    unfold stepL
    simp only [List.not_mem_nil, false_or, List.mem_flatMap]
    constructor
    · rintro ⟨z, hz, h⟩
      obtain ⟨g, hg, rfl⟩ := (ih (by omega)).mp hz
      rcases h with rfl | ⟨hf, rfl⟩
      · refine ⟨g ++ [true], ⟨g, hg, ?_⟩, ?_⟩
        · unfold addL
          split <;> simp
        · rw [l1 g hg]; rfl
      · refine ⟨g ++ [false], ⟨g, hg, ?_⟩, ?_⟩
        · unfold addL
          rw [hf]
          simp
        · rw [l1 g hg]; rfl
    · rintro ⟨g', ⟨g, hg, hm⟩, rfl⟩
      refine ⟨ledS N rs g i, (ih (by omega)).mpr ⟨g, hg, rfl⟩, ?_⟩
      unfold addL at hm
      cases hf : r.f with
      | true =>
        rw [hf] at hm
        simp at hm
        rw [hm, l1 g hg]
        exact .inl rfl
      | false =>
        rw [hf] at hm
        simp at hm
        rcases hm with rfl | rfl
        · rw [l1 g hg]; exact .inr ⟨rfl, rfl⟩
        · rw [l1 g hg]; exact .inl rfl
/-! ## the walk -/
noncomputable def fi0l : LF := (lLst (lCons (eRng1 (eVar 0)) lNil))
noncomputable def fi0 : SF := (sSet 2 (eLst fi0l))
noncomputable def fi1_0e : EF := eDctT
noncomputable def fi1_0 : SF := (sSet 4 fi1_0e)
noncomputable def fi1_1_0l : LF := (lQ lstG (lRd (eVar 5)))
noncomputable def fi1_1_0 : SF := (sSet 6 (eLst fi1_1_0l))
noncomputable def fi1_1_1 : SF := (sSub (eVar 6) (e2 getD (eVar 3) (eC (.int 0))) (e2 getD (eVar 5) (e2 getD (eVar 3) (eC (.int 1)))))
noncomputable def fi1_1_2 : SF := (sDput (eVar 4) (eQ tupG (lRd (eVar 6))) (eC (.bl true)))
noncomputable def fi1_1_3 : SF := (sIf (bNot (bTru (e2 getD (eVar 3) (eC (.int 2))))) (sDput (eVar 4) (eVar 5) (eC (.bl true))) sNil)
noncomputable def fi1_1b : SF := (sSeq fi1_1_0 (sSeq fi1_1_1 (sSeq fi1_1_2 fi1_1_3)))
noncomputable def fi1_1 : SF := (sFor (.name 5) (iSeqF (eVar 2)) fi1_1b)
noncomputable def fi1_2l : LF := (lKeysT (eVar 4))
noncomputable def fi1_2 : SF := (sSet 2 (eLst fi1_2l))
noncomputable def fi1b : SF := (sSeq fi1_0 (sSeq fi1_1 fi1_2))
noncomputable def fi1 : SF := (sFor (.name 3) (iSeqF (eVar 1)) fi1b)
noncomputable def fi2e : EF := (eVar 2)
noncomputable def fi2 : SF := (sRet fi2e)
theorem fi_cut : m__law_finals = runDef 7 (sSeq fi0 (sSeq fi1 fi2)) := m__law_finals_eq
theorem dput_tI {env : AEnv} {δ : Nat} (h : S[δ]? = some (.dcT (kvT J))) (hl : J.length < 100000) : dputR δ (tI x) (.bl true) env S = .next env (S.set δ (.dcT (kvT (addJ J x)))) := by
  obtain ⟨k, hk⟩ := keyT_tI x
  have zl : (kvT J).length < sizeLine := by
    have q : J.length + 1 ≤ sizeLine := szl (by omega)
    unfold kvT
    rw [List.length_map]
    omega
  unfold dputR
  simp only [h, hk]
  rw [if_pos zl, put_kvT hk]
theorem fib_ok {κ δ : Nat} {o5 o6 : Option D} (hx : x.length = N) (hN : N ≤ 12) (hr : RwOk N r) (h : S[δ]? = some (.dcT (kvT J))) (hl : J.length < 99990) :
    ∃ q6 S', fi1_1b [some (.int N), some (.tup (rs.map rwD)), some (.ref κ), some (rwD r), some (.ref δ), some (tI x), o6] S = .next [some (.int N), some (.tup (rs.map rwD)), some (.ref κ), some (rwD r), some (.ref δ), some (tI x), q6] S' ∧ S'[δ]? = some (.dcT (kvT (finB r J x))) ∧ S.length ≤ S'.length ∧ ∀ j, j < S.length → j ≠ δ → S'[j]? = S[j]? := by
  obtain ⟨hx1, hy1, _⟩ := hr
  have dl := (List.getElem?_eq_some_iff.mp h).1
  have z1 : x.length ≤ sizeLine := szl (by omega)
  have gv : ∀ s : Store, getD (tI x) (.int (r.y : Int)) s = .ok (.int (x.getD r.y 0)) s := fun s => getD_i rfl (by omega)
  have ix : ixN x.length (r.x : Int) = some r.x := by
    unfold ixN
    rw [if_pos (by omega), if_pos (by omega)]
    simp
  have s0 : fi1_1_0 [some (.int N), some (.tup (rs.map rwD)), some (.ref κ), some (rwD r), some (.ref δ), some (tI x), o6] S = .next [some (.int N), some (.tup (rs.map rwD)), some (.ref κ), some (rwD r), some (.ref δ), some (tI x), some (.ref S.length)] (S ++ [.lst (x.map D.int)]) := by
    unfold fi1_1_0 fi1_1_0l tI
    simp [lstG]
  have s1 : fi1_1_1 [some (.int N), some (.tup (rs.map rwD)), some (.ref κ), some (rwD r), some (.ref δ), some (tI x), some (.ref S.length)] (S ++ [.lst (x.map D.int)]) = .next [some (.int N), some (.tup (rs.map rwD)), some (.ref κ), some (rwD r), some (.ref δ), some (tI x), some (.ref S.length)] (S ++ [.lst ((cpL x r).map D.int)]) := by
    unfold fi1_1_1
    generalize hX : tI x = X at *
    simp [rw0, rw1, gv, ix, cpL, List.map_set]
  have h1 : (S ++ [AO.lst ((cpL x r).map D.int)])[δ]? = some (.dcT (kvT J)) := kpS h
  have d1 := dput_tI (env := [some (.int N), some (.tup (rs.map rwD)), some (.ref κ), some (rwD r), some (.ref δ), some (tI x), some (.ref S.length)]) (x := cpL x r) h1 (by omega)
  have g6 : (S ++ [AO.lst ((cpL x r).map D.int)])[S.length]? = some (.lst ((cpL x r).map D.int)) := List.getElem?_concat_length
  have s2 : fi1_1_2 [some (.int N), some (.tup (rs.map rwD)), some (.ref κ), some (rwD r), some (.ref δ), some (tI x), some (.ref S.length)] (S ++ [.lst ((cpL x r).map D.int)]) = .next [some (.int N), some (.tup (rs.map rwD)), some (.ref κ), some (rwD r), some (.ref δ), some (tI x), some (.ref S.length)] ((S ++ [AO.lst ((cpL x r).map D.int)]).set δ (.dcT (kvT (addJ J (cpL x r))))) := by
    unfold fi1_1_2
    rw [← d1]
    unfold tI
    generalize (cpL x r).map D.int = C at *
    simp [g6]
  generalize hS2 : (S ++ [AO.lst ((cpL x r).map D.int)]).set δ (.dcT (kvT (addJ J (cpL x r)))) = S2 at *
  have e2 : S2[δ]? = some (.dcT (kvT (addJ J (cpL x r)))) := by rw [← hS2, List.getElem?_set_self (by simp; omega)]
  have l2 : S2.length = S.length + 1 := by rw [← hS2]; simp
  have k2 : ∀ j, j < S.length → j ≠ δ → S2[j]? = S[j]? := fun j hj hd => by
    rw [← hS2, List.getElem?_set_ne (Ne.symm hd), List.getElem?_append_left hj]
  have la := len_add (J := J) (x := cpL x r)
  have d2 := dput_tI (env := [some (.int N), some (.tup (rs.map rwD)), some (.ref κ), some (rwD r), some (.ref δ), some (tI x), some (.ref S.length)]) (x := x) e2 (by omega)
  cases hf : r.f with
  | true =>
    refine ⟨some (.ref S.length), S2, ?_, ?_, by omega, k2⟩
    · unfold fi1_1b
      rw [sqN s0, sqN s1, sqN s2]
      unfold fi1_1_3
      simp [rw2, hf]
    · unfold finB
      rw [hf]
      exact e2
  | false =>
    refine ⟨some (.ref S.length), S2.set δ (.dcT (kvT (addJ (addJ J (cpL x r)) x))), ?_, ?_, by simp; omega, fun j hj hd => by rw [List.getElem?_set_ne (Ne.symm hd)]; exact k2 j hj hd⟩
    · unfold fi1_1b
      rw [sqN s0, sqN s1, sqN s2]
      unfold fi1_1_3
      rw [← d2]
      simp [rw2, hf]
    · unfold finB
      rw [hf, List.getElem?_set_self (by omega)]
      rfl
theorem fir_ok {κ : Nat} {o4 o5 o6 : Option D} (hN : N ≤ 12) (hr : RwOk N r) (hK : ∀ x ∈ K, x.length = N) (hk : S[κ]? = some (.lst (K.map tI))) (hl : K.length ≤ 40000) :
    ∃ κ' q4 q5 q6 S', fi1b [some (.int N), some (.tup (rs.map rwD)), some (.ref κ), some (rwD r), o4, o5, o6] S = .next [some (.int N), some (.tup (rs.map rwD)), some (.ref κ'), some (rwD r), q4, q5, q6] S' ∧ S'[κ']? = some (.lst ((finK r K).map tI)) ∧ S.length ≤ κ' ∧ S.length ≤ S'.length ∧ ∀ j, j < S.length → S'[j]? = S[j]? := by
  have kl := (List.getElem?_eq_some_iff.mp hk).1
  have zK : K.length ≤ sizeLine := szl (by omega)
  have s0 : fi1_0 [some (.int N), some (.tup (rs.map rwD)), some (.ref κ), some (rwD r), o4, o5, o6] S = .next [some (.int N), some (.tup (rs.map rwD)), some (.ref κ), some (rwD r), some (.ref S.length), o5, o6] (S ++ [.dcT (kvT [])]) := by
    unfold fi1_0 fi1_0e
    rfl
  have hk1 : (S ++ [AO.dcT (kvT [])])[κ]? = some (.lst (K.map tI)) := kpS hk
  have k1 : ∃ q5 q6 S', fi1_1 [some (.int N), some (.tup (rs.map rwD)), some (.ref κ), some (rwD r), some (.ref S.length), o5, o6] (S ++ [.dcT (kvT [])]) = .next [some (.int N), some (.tup (rs.map rwD)), some (.ref κ), some (rwD r), some (.ref S.length), q5, q6] S' ∧ S'[S.length]? = some (.dcT (kvT (finK r K))) ∧ S.length + 1 ≤ S'.length ∧ ∀ j, j < S.length → S'[j]? = S[j]? := by
    have it : iSeqF (eVar 2) [some (.int N), some (.tup (rs.map rwD)), some (.ref κ), some (rwD r), some (.ref S.length), o5, o6] (S ++ [.dcT (kvT [])]) = .ok (K.map tI, [(κ, K.map tI)]) (S ++ [.dcT (kvT [])]) := by simp [hk1]
    have gk : ∀ {s : Store}, s[κ]? = some (.lst (K.map tI)) → gOK (K.map tI, [(κ, K.map tI)]) s := fun e => by rw [gOK_cons]; exact ⟨by rw [seqOf_ref, e], by simp⟩
    unfold fi1_1
    rw [sFor_ap, it]
    simp only [sOf_ok]
    rw [if_pos (gk hk1)]
    generalize hq : loopF _ _ _ _ _ _ = r'
    obtain ⟨e, s', rfl, q5, q6, rfl, hd, hle, hj⟩ := loopF_next hq (fun i env s => ∃ q5 q6 : Option D, env = [some (.int N), some (.tup (rs.map rwD)), some (.ref κ), some (rwD r), some (.ref S.length), q5, q6] ∧ s[S.length]? = some (.dcT (kvT ((K.take i).foldl (finB r) []))) ∧ S.length + 1 ≤ s.length ∧ ∀ j, j < S.length → s[j]? = S[j]?) ⟨o5, o6, rfl, List.getElem?_concat_length, by simp, fun j hj => List.getElem?_append_left hj⟩ fun i d env s hI hd => by
      obtain ⟨q5, q6, rfl, hd4, hle, hj⟩ := hI
      rw [List.getElem?_map] at hd
      cases hx : K[i]? with
      | none => rw [hx] at hd; cases hd
      | some x =>
        rw [hx] at hd
        cases hd
        have hil := (List.getElem?_eq_some_iff.mp hx).1
        have et : K.take (i + 1) = K.take i ++ [x] := by rw [List.take_add_one, hx]; rfl
        have lf := len_fold (r := r) (K.take i) []
        rw [List.length_take] at lf
        simp only [List.length_nil] at lf
        obtain ⟨p6, S', hb, g1, g2, g3⟩ := fib_ok (rs := rs) (κ := κ) (o5 := q5) (o6 := q6) (hK x (List.mem_of_getElem? hx)) hN hr hd4 (by omega)
        refine ⟨_, asgT_name _ _ _, _, S', .inl hb, gk (by rw [g3 κ (by omega) (by omega), hj κ kl]; exact hk), some (tI x), p6, rfl, ?_, by omega, fun j hj' => by rw [g3 j (by omega) (by omega)]; exact hj j hj'⟩
        rw [et, List.foldl_append]
        exact g1
    rw [List.length_map, List.take_length] at hd
    exact ⟨q5, q6, s', rfl, hd, hle, hj⟩
  obtain ⟨q5, q6, S', k1, g1, g2, g3⟩ := k1
  have s2 : fi1_2 [some (.int N), some (.tup (rs.map rwD)), some (.ref κ), some (rwD r), some (.ref S.length), q5, q6] S' = .next [some (.int N), some (.tup (rs.map rwD)), some (.ref S'.length), some (rwD r), some (.ref S.length), q5, q6] (S' ++ [.lst ((finK r K).map tI)]) := by
    unfold fi1_2 fi1_2l
    rw [← kvT_fst]
    simp [g1]
  refine ⟨S'.length, some (.ref S.length), q5, q6, S' ++ [.lst ((finK r K).map tI)], ?_, List.getElem?_concat_length, by omega, by simp; omega, fun j hj => by rw [List.getElem?_append_left (by omega)]; exact g3 j hj⟩
  unfold fi1b
  rw [sqN s0, sqN k1, s2]
theorem finL_lenN (hrs : ∀ r ∈ rs, RwOk N r) (hx : x ∈ finL N rs) : x.length = N := by
  have h := finL_mem (N := N) (rs := rs) (x := x) (i := rs.length) (Nat.le_refl _)
  rw [List.take_length] at h
  obtain ⟨g, _, rfl⟩ := h.mp hx
  exact (ledS_row (N := N) (fs := g) hrs rs.length).1
theorem ints_closedF (j : Nat) : ∀ K : List (List Int), closeds j (K.map tI) = true
  | [] => rfl
  | x :: K => by
    have ih := ints_closedF j K
    rw [List.map_cons, closeds, ih]
    simp [tI, closed, closeds_ints]
theorem finals_drop {env : AEnv} {fr : LF} (hfr : fr env st = .ok [.int N, .tup (rs.map rwD)] st) (hN : N ≤ 12) (hrs : ∀ r ∈ rs, RwOk N r) (hM : rs.length ≤ 15) : lDrop (eCall m__law_finals fr) env st = .ok ((finL N rs).map tI) st := by
  have z1 : 1 ≤ sizeLine := szl (by omega)
  have rk := rgOkN (N := N) (by omega)
  have k0 : fi0 [some (.int N), some (.tup (rs.map rwD)), none, none, none, none, none] st = .next [some (.int N), some (.tup (rs.map rwD)), some (.ref st.length), none, none, none, none] (st ++ [.lst ((finL N []).map tI)]) := by
    unfold fi0 fi0l
    simp [okIf_pos rk, okIf_pos z1, beg_rng, finL, tI]
  have k1 : ∃ κ o3 o4 o5 o6 S', fi1 [some (.int N), some (.tup (rs.map rwD)), some (.ref st.length), none, none, none, none] (st ++ [.lst ((finL N []).map tI)]) = .next [some (.int N), some (.tup (rs.map rwD)), some (.ref κ), o3, o4, o5, o6] S' ∧ S'[κ]? = some (.lst ((finL N rs).map tI)) ∧ st.length ≤ κ ∧ st.length ≤ S'.length ∧ ∀ j, j < st.length → S'[j]? = st[j]? := by
    have it : iSeqF (eVar 1) [some (.int N), some (.tup (rs.map rwD)), some (.ref st.length), none, none, none, none] (st ++ [.lst ((finL N []).map tI)]) = .ok (rs.map rwD, []) (st ++ [.lst ((finL N []).map tI)]) := by simp
    unfold fi1
    rw [sFor_ap, it]
    simp only [sOf_ok]
    rw [if_pos (by simp)]
    generalize hq : loopF _ _ _ _ _ _ = r'
    obtain ⟨e, s', rfl, κ, o3, o4, o5, o6, rfl, h1, h2, h3, hj⟩ := loopF_next hq (fun i env s => ∃ (κ : Nat) (o3 o4 o5 o6 : Option D), env = [some (.int N), some (.tup (rs.map rwD)), some (.ref κ), o3, o4, o5, o6] ∧ s[κ]? = some (.lst ((finL N (rs.take i)).map tI)) ∧ st.length ≤ κ ∧ st.length ≤ s.length ∧ ∀ j, j < st.length → s[j]? = st[j]?) ⟨st.length, none, none, none, none, rfl, List.getElem?_concat_length, Nat.le_refl _, by simp, fun j hj => List.getElem?_append_left hj⟩ fun i d env s hI hd => by
      obtain ⟨κ, o3, o4, o5, o6, rfl, h1, h2, h3, hj⟩ := hI
      rw [List.getElem?_map] at hd
      cases hri : rs[i]? with
      | none => rw [hri] at hd; cases hd
      | some r =>
        rw [hri] at hd
        cases hd
        have hil := (List.getElem?_eq_some_iff.mp hri).1
        have et : rs.take (i + 1) = rs.take i ++ [r] := by rw [List.take_add_one, hri]; rfl
        have fl := finL_len (N := N) (rs.take i)
        have p2 : 2 ^ (rs.take i).length ≤ 2 ^ 15 := Nat.pow_le_pow_right (by omega) (by rw [List.length_take]; omega)
        have hrs' : ∀ r ∈ rs.take i, RwOk N r := fun r hr => hrs r (List.mem_of_mem_take hr)
        obtain ⟨κ', q4, q5, q6, S', hb, g1, g2, g3, g4⟩ := fir_ok (rs := rs) (o4 := o4) (o5 := o5) (o6 := o6) hN (hrs r (List.mem_of_getElem? hri)) (fun x hx => finL_lenN hrs' hx) h1 (by omega)
        refine ⟨_, asgT_name _ _ _, _, S', .inl hb, by simp, κ', some (rwD r), q4, q5, q6, rfl, ?_, by omega, by omega, fun j hj' => by rw [g4 j (by omega)]; exact hj j hj'⟩
        rw [g1]
        unfold finL
        rw [et, List.foldl_append]
        rfl
    rw [List.length_map, List.take_length] at h1
    exact ⟨κ, o3, o4, o5, o6, s', rfl, h1, h2, h3, hj⟩
  obtain ⟨κ, o3, o4, o5, o6, S', k1, h1, h2, h3, hj⟩ := k1
  have run : m__law_finals [.int N, .tup (rs.map rwD)] st = .ok (.ref κ) S' := by
    have ee : (List.map some [D.int N, .tup (rs.map rwD)] ++ List.replicate (7 - [D.int N, .tup (rs.map rwD)].length) none : AEnv) = [some (.int N), some (.tup (rs.map rwD)), none, none, none, none, none] := rfl
    rw [fi_cut]
    simp only [runDef_ap]
    rw [ee, sqN k0, sqN k1]
    rfl
  obtain ⟨Y, hY⟩ : ∃ Y, S' = st ++ Y := ⟨S'.drop st.length, by
    have e : S'.take st.length = st := by
      apply List.ext_getElem?
      intro i
      by_cases hi : i < st.length
      · rw [List.getElem?_take_of_lt hi]; exact hj i hi
      · rw [List.getElem?_eq_none (by rw [List.length_take]; omega), List.getElem?_eq_none (by omega)]
    have := List.take_append_drop st.length S'
    rw [e] at this
    exact this.symm⟩
  subst hY
  exact lDrop_call (X := Y) hfr run h2 h1 (ints_closedF _ _)
end
end TK

set_option Elab.async false
namespace TK
def EdOk (N : Nat) (es : List (Option Nat)) : Prop := es.length = N ∧ ∀ e, some e ∈ es → e < N
end TK

set_option Elab.async false
set_option linter.all false
set_option maxRecDepth 100000
set_option maxHeartbeats 4000000
namespace TK
open PySem PySem.Spec
open PyProof.Rows hiding St
open L2
/-! # the main fact and the fourth fact, plainly -/
section
variable {a h h' : Int} {x cs L : List Int} {N : Nat} {r : Rw} {s : Bool} {rs : List Rw} {gs : List Bool}
def onSd (s : Bool) (h : Int) (o : Nat) : Bool := if s then decide ((o : Int) < h) else decide (h ≤ (o : Int))
def fgn (s : Bool) (a e : Int) : Bool := if s then decide (a ≤ e) else decide (e < a)
/-- what lies beyond, told once at the least -/
def Cov (s : Bool) (N : Nat) (a h : Int) (x L : List Int) : Prop := ∀ o, o < N → onSd s h o = true → fgn s a (x.getD o 0) = true → x.getD o 0 ∈ L
theorem cov_walk (h0 : 0 ≤ h) (h1 : 0 ≤ h') (c : Cov s N a h x L) : ∃ L', Cov s N a h' x L' ∧ (L'.length : Int) = L.length + stepI s h h' := by
  cases s with
  | true =>
    by_cases w : h' - h > 0
    · refine ⟨L ++ (List.range (h' - h).toNat).map fun j => x.getD (h.toNat + j) 0, fun o ho on fg => ?_, ?_⟩
      · rw [List.mem_append]
        by_cases w2 : (o : Int) < h
        · exact .inl (c o ho (decide_eq_true w2) fg)
        · have on := of_decide_eq_true (show decide ((o : Int) < h') = true from on)
          refine .inr (List.mem_map.mpr ⟨o - h.toNat, List.mem_range.mpr (by omega), ?_⟩)
          rw [show h.toNat + (o - h.toNat) = o by omega]
      · have e : stepI true h h' = h' - h := if_pos w
        rw [e, List.length_append, List.length_map, List.length_range]
        omega
    · refine ⟨L, fun o ho on fg => c o ho (decide_eq_true ?_) fg, ?_⟩
      · have on := of_decide_eq_true (show decide ((o : Int) < h') = true from on)
        omega
      · have e : stepI true h h' = 0 := if_neg w
        rw [e]
        omega
  | false =>
    by_cases w : h - h' > 0
    · refine ⟨L ++ (List.range (h - h').toNat).map fun j => x.getD (h'.toNat + j) 0, fun o ho on fg => ?_, ?_⟩
      · rw [List.mem_append]
        by_cases w2 : h ≤ (o : Int)
        · exact .inl (c o ho (decide_eq_true w2) fg)
        · have on := of_decide_eq_true (show decide (h' ≤ (o : Int)) = true from on)
          refine .inr (List.mem_map.mpr ⟨o - h'.toNat, List.mem_range.mpr (by omega), ?_⟩)
          rw [show h'.toNat + (o - h'.toNat) = o by omega]
      · have e : stepI false h h' = h - h' := if_pos w
        rw [e, List.length_append, List.length_map, List.length_range]
        omega
    · refine ⟨L, fun o ho on fg => c o ho (decide_eq_true ?_) fg, ?_⟩
      · have on := of_decide_eq_true (show decide (h' ≤ (o : Int)) = true from on)
        omega
      · have e : stepI false h h' = 0 := if_neg w
        rw [e]
        omega
theorem cov_row (c : Cov s N a h x L) (hr : RwOk N r) (hx : x.length = N) (hb : h ≠ barI s r) : Cov s N a h (cpL x r) L := fun o ho on fg => by
  obtain ⟨r1, r2, r3⟩ := hr
  unfold cpL at fg ⊢
  by_cases e : o = r.x
  · subst e
    have e2 : (x.set r.x (x.getD r.y 0)).getD r.x 0 = x.getD r.y 0 := by
      rw [List.getD_eq_getElem?_getD, List.getElem?_set_self (by omega)]
      rfl
    rw [e2] at fg ⊢
    refine c r.y r2 ?_ fg
    cases s with
    | true =>
      have on := of_decide_eq_true (show decide ((r.x : Int) < h) = true from on)
      refine decide_eq_true ?_
      by_cases lt : r.x < r.y
      · have eb : barI true r = ((min r.x r.y : Nat) : Int) + 1 := by
          unfold barI lftR lowR
          rw [decide_eq_true lt]
          rfl
        rw [eb] at hb
        omega
      · omega
    | false =>
      have on := of_decide_eq_true (show decide (h ≤ (r.x : Int)) = true from on)
      refine decide_eq_true ?_
      by_cases lt : r.x < r.y
      · omega
      · have eb : barI false r = ((min r.x r.y : Nat) : Int) + 1 := by
          unfold barI lftR lowR
          rw [decide_eq_false lt]
          rfl
        rw [eb] at hb
        omega
  · have e2 : (x.set r.x (x.getD r.y 0)).getD o 0 = x.getD o 0 := by
      simp only [List.getD_eq_getElem?_getD]
      rw [List.getElem?_set_ne (fun z => e z.symm)]
    rw [e2] at fg ⊢
    exact c o ho on fg
theorem led_len (hrs : ∀ r ∈ rs, RwOk N r) (m : Nat) : (ledS N rs gs m).length = N := (ledS_row (N := N) (fs := gs) hrs m).1
end
section
variable {N A Z p q v w n o e b : Nat} {a : Int} {rs qs : List Rw} {es es' : List (Option Nat)} {r : Rw} {s : Bool} {f g : Nat → Bool}
def cB (f : Nat → Bool) : Nat → Nat
  | 0 => 0
  | n + 1 => cB f n + (if f n = true then 1 else 0)
theorem cB_mono : ∀ {n : Nat}, (∀ e, e < n → f e = true → g e = true) → cB f n ≤ cB g n
  | 0, _ => Nat.le_refl _
  | n + 1, h => by
    have ih := cB_mono (n := n) fun e he => h e (by omega)
    have k := h n (by omega)
    unfold cB
    by_cases c : f n = true
    · rw [if_pos c, if_pos (k c)]; omega
    · rw [if_neg c]; omega
theorem cB_ex (h : cB f n < cB g n) : ∃ e, e < n ∧ g e = true ∧ ¬ f e = true := by
  apply Classical.byContradiction
  intro c
  have := cB_mono (f := g) (g := f) (n := n) fun e he hg => by
    apply Classical.byContradiction
    intro d
    exact c ⟨e, he, hg, d⟩
  omega
theorem cB_one : ∀ {n : Nat}, (∀ e, e < n → g e = true → f e = true ∨ e = v) → cB g n ≤ cB f n + 1 ∧ (n ≤ v → cB g n ≤ cB f n)
  | 0, _ => ⟨by simp [cB], fun _ => by simp [cB]⟩
  | n + 1, h => by
    obtain ⟨i1, i2⟩ := cB_one (n := n) fun e he => h e (by omega)
    have hn := h n (by omega)
    unfold cB
    by_cases c : g n = true
    · rw [if_pos c]
      rcases hn c with d | d
      · rw [if_pos d]
        exact ⟨by omega, fun z => by have := i2 (by omega); omega⟩
      · have := i2 (by omega)
        exact ⟨by omega, fun z => by omega⟩
    · rw [if_neg c]
      exact ⟨by omega, fun z => by have := i2 (by omega); omega⟩
theorem cB_lt : ∀ {n : Nat}, (∀ e, e < n → f e = true → g e = true) → w < n → g w = true → ¬ f w = true → cB f n + 1 ≤ cB g n
  | 0, _, hw, _, _ => by omega
  | n + 1, h, hw, h1, h2 => by
    unfold cB
    by_cases c : w = n
    · subst c
      rw [if_neg h2, if_pos h1]
      have := cB_mono (n := w) fun e he => h e (by omega)
      omega
    · have ih := cB_lt (n := n) (fun e he => h e (by omega)) (by omega) h1 h2
      have k := h n (by omega)
      by_cases c : f n = true
      · rw [if_pos c, if_pos (k c)]; omega
      · rw [if_neg c]; omega
theorem cB_two {a : Nat} : ∀ {n : Nat}, (∀ e, e < n → f e = true → a ≤ e ∧ e < b ∧ ¬ g e = true) → (∀ e, e < n → g e = true → a ≤ e ∧ e < b) → cB f n + cB g n ≤ min n b - a
  | 0, _, _ => by simp [cB]
  | n + 1, h1, h2 => by
    have ih := cB_two (n := n) (fun e he => h1 e (by omega)) fun e he => h2 e (by omega)
    have k1 := h1 n (by omega)
    have k2 := h2 n (by omega)
    unfold cB
    by_cases c : f n = true
    · obtain ⟨x, y, z⟩ := k1 c
      rw [if_pos c, if_neg z]
      omega
    · rw [if_neg c]
      by_cases d : g n = true
      · obtain ⟨x, y⟩ := k2 d
        rw [if_pos d]; omega
      · rw [if_neg d]; omega
theorem filter_cB : ∀ n, ((List.range n).filter f).length = cB f n
  | 0 => rfl
  | n + 1 => by
    rw [List.range_succ, List.filter_append, List.length_append, filter_cB n]
    show _ = cB f n + (if f n = true then 1 else 0)
    by_cases c : f n = true
    · rw [if_pos c]; simp [c]
    · rw [if_neg c]; simp [c]
/-- e is in the list beyond a post from a to Z -/
def seen (s : Bool) (N : Nat) (es : List (Option Nat)) (A Z e : Nat) : Bool := (List.range N).any fun o => onSd s (Z : Int) o && (decide (es[o]? = some (some e)) && fgn s (A : Int) (e : Int))
theorem seen_iff : seen s N es A Z e = true ↔ ∃ o, o < N ∧ onSd s (Z : Int) o = true ∧ es[o]? = some (some e) ∧ fgn s (A : Int) (e : Int) = true := by
  unfold seen
  simp only [List.any_eq_true, List.mem_range, Bool.and_eq_true, decide_eq_true_eq]
def noFall (es : List (Option Nat)) : Prop := ∀ (i j a b : Nat), i < j → es[i]? = some (some a) → es[j]? = some (some b) → ¬ b < a
def few (s : Bool) (N : Nat) (V : Nat → Nat → Int) (es : List (Option Nat)) : Prop := ∀ A Z, A ≤ N → Z ≤ N → (cB (seen s N es A Z) N : Int) ≤ V A Z
theorem led_snoc {g' : List Bool} (hl : g'.length = rs.length) (f : Bool) : ledS N (rs ++ [r]) (g' ++ [f]) (rs.length + 1) = if f then cpL (ledS N rs g' rs.length) r else ledS N rs g' rs.length := by
  have h0 : ∀ m, m ≤ rs.length → ledS N (rs ++ [r]) (g' ++ [f]) m = ledS N rs g' m := by
    intro m
    induction m with
    | zero => intro _; rfl
    | succ m ih =>
      intro h
      have ih := ih (by omega)
      rw [ledS, ledS, ih, List.getElem?_append_left (by omega), List.getElem?_append_left (by omega)]
  rw [ledS_suc (r := r) (f := f) (by rw [List.getElem?_append_right (Nat.le_refl _)]; simp) (by rw [List.getElem?_append_right (by omega), hl]; simp), h0 _ (Nat.le_refl _)]
theorem V_other (h : ¬ ownR s r = true) {A : Nat} {Z : Nat} (hZ : Z ≤ N) : Vf s N A (rs ++ [r]) Z = Vf s N A rs Z := by
  rw [V_snoc]
  exact stepV_free (bar_other h) (V_tri s N A rs) hZ
theorem V_own_ne {k : Nat} (h : barI s r = ((k : Nat) : Int)) {A : Nat} {Z : Nat} (hZ : Z ≤ N) (hk : Z ≠ k) : Vf s N A (rs ++ [r]) Z = Vf s N A rs Z := by
  rw [V_snoc]
  have h1 := stepV_le (s := s) (N := N) (r := r) (V := Vf s N A rs) (c := Z) (g := Z) hZ (by rw [h]; omega)
  rw [step_self] at h1
  obtain ⟨c, hc, _, e⟩ := stepV_ex s N r (Vf s N A rs) Z
  have h2 := V_tri s N A rs c Z hc
  omega
theorem V_own_le {k : Nat} (h : barI s r = ((k : Nat) : Int)) {A : Nat} {c : Nat} (hc : c ≤ N) (hk : c ≠ k) : Vf s N A (rs ++ [r]) k ≤ Vf s N A rs c + stepI s c k := by
  rw [V_snoc]
  exact stepV_le hc (by rw [h]; omega)
/-- one row's geometry: the office that copies, the one that is copied, the cut, the cuts beside it -/
structure Geo (s : Bool) (N : Nat) (r : Rw) (k c1 c2 : Nat) : Prop where
  bar : barI s r = (k : Int)
  x : r.x < N
  y : r.y < N
  kN : k ≤ N
  c1N : c1 ≤ N
  c2N : c2 ≤ N
  k1 : c1 ≠ k
  k2 : c2 ≠ k
  s1 : stepI s c1 k = 1
  s1' : stepI s k c1 = 0
  s2 : stepI s c2 k = 0
  s2' : stepI s k c2 = 1
  on1 : ∀ o : Nat, onSd s (c1 : Int) o = true ↔ onSd s (k : Int) o = true ∧ o ≠ r.x
  on2 : ∀ o : Nat, onSd s (c2 : Int) o = true ↔ onSd s (k : Int) o = true ∨ o = r.y
  onx : onSd s (k : Int) r.x = true
  ony : ¬ onSd s (k : Int) r.y = true
  both : ∀ (t : Bool) (Z : Nat), Z ≠ k → (onSd t (Z : Int) r.x = true ↔ onSd t (Z : Int) r.y = true)
  kk : k = if s = true then r.x + 1 else r.x
  nb : if s = true then r.y = r.x + 1 else r.x = r.y + 1
theorem geo_of (hr : RwOk N r) : ∃ k c1 c2, Geo (lftR r) N r k c1 c2 := by
  obtain ⟨h1, h2, h3⟩ := hr
  have low : lowR r = min r.x r.y := rfl
  cases c : lftR r with
  | true =>
    have hl : r.x < r.y := of_decide_eq_true c
    have bb : barI true r = ((r.x + 1 : Nat) : Int) := by
      unfold barI
      rw [c, if_pos (by rfl), low]
      omega
    exact ⟨r.x + 1, r.x, r.x + 2, ⟨bb, h1, h2, by omega, by omega, by omega, by omega, by omega, by unfold stepI; simp only [if_true, Bool.false_eq_true, if_false]; split <;> omega, by unfold stepI; simp only [if_true, Bool.false_eq_true, if_false]; split <;> omega, by unfold stepI; simp only [if_true, Bool.false_eq_true, if_false]; split <;> omega, by unfold stepI; simp only [if_true, Bool.false_eq_true, if_false]; split <;> omega, fun o => by unfold onSd; simp only [if_true, Bool.false_eq_true, if_false, decide_eq_true_eq]; omega, fun o => by unfold onSd; simp only [if_true, Bool.false_eq_true, if_false, decide_eq_true_eq]; omega, by unfold onSd; simp only [if_true, Bool.false_eq_true, if_false, decide_eq_true_eq]; omega, by unfold onSd; simp only [if_true, Bool.false_eq_true, if_false, decide_eq_true_eq]; omega, fun t Z hZ => by unfold onSd; cases t <;> simp only [if_true, Bool.false_eq_true, if_false, decide_eq_true_eq] <;> omega, by simp only [if_true, Bool.false_eq_true, if_false], by simp only [if_true, Bool.false_eq_true, if_false]; omega⟩⟩
  | false =>
    have hl : ¬ r.x < r.y := of_decide_eq_false c
    have bb : barI false r = ((r.x : Nat) : Int) := by
      unfold barI
      rw [c, if_pos (by rfl), low]
      omega
    exact ⟨r.x, r.x + 1, r.y, ⟨bb, h1, h2, by omega, by omega, by omega, by omega, by omega, by unfold stepI; simp only [if_true, Bool.false_eq_true, if_false]; split <;> omega, by unfold stepI; simp only [if_true, Bool.false_eq_true, if_false]; split <;> omega, by unfold stepI; simp only [if_true, Bool.false_eq_true, if_false]; split <;> omega, by unfold stepI; simp only [if_true, Bool.false_eq_true, if_false]; split <;> omega, fun o => by unfold onSd; simp only [if_true, Bool.false_eq_true, if_false, decide_eq_true_eq]; omega, fun o => by unfold onSd; simp only [if_true, Bool.false_eq_true, if_false, decide_eq_true_eq]; omega, by unfold onSd; simp only [if_true, Bool.false_eq_true, if_false, decide_eq_true_eq]; omega, by unfold onSd; simp only [if_true, Bool.false_eq_true, if_false, decide_eq_true_eq]; omega, fun t Z hZ => by unfold onSd; cases t <;> simp only [if_true, Bool.false_eq_true, if_false, decide_eq_true_eq] <;> omega, by simp only [if_true, Bool.false_eq_true, if_false], by simp only [if_true, Bool.false_eq_true, if_false]; omega⟩⟩
theorem on_not {t : Bool} (h : t ≠ s) (o Z : Nat) : onSd t (Z : Int) o = true ↔ ¬ onSd s (Z : Int) o = true := by
  unfold onSd
  cases s <;> cases t <;> simp at h ⊢
/-- the list with the copied edition given back to where it came from -/
def backE (es : List (Option Nat)) (r : Rw) (v : Nat) : List (Option Nat) := (es.set r.x none).set r.y (some v)
theorem back_get (hx : r.x < N) (hy : r.y < N) (hl : es.length = N) (hn : r.x ≠ r.y) (o : Nat) : (backE es r v)[o]? = if o = r.y then some (some v) else if o = r.x then some none else es[o]? := by
  unfold backE
  by_cases c : o = r.y
  · rw [if_pos c, c, List.getElem?_set_self (by rw [List.length_set]; omega)]
  · rw [if_neg c, List.getElem?_set_ne (fun z => c z.symm)]
    by_cases d : o = r.x
    · rw [if_pos d, d, List.getElem?_set_self (by omega)]
    · rw [if_neg d, List.getElem?_set_ne (fun z => d z.symm)]
theorem seen_sub {t : Bool} {A' Z' : Nat} (h : ∀ o e, o < N → onSd s (Z : Int) o = true → es[o]? = some (some e) → fgn s (A : Int) (e : Int) = true → seen t N es' A' Z' e = true) : cB (seen s N es A Z) N ≤ cB (seen t N es' A' Z') N :=
  cB_mono fun e _ hs => by
    obtain ⟨o, ho, h1, h2, h3⟩ := seen_iff.mp hs
    exact h o e ho h1 h2 h3
/-- THE MAIN FACT, the hard half -/
theorem main_led : ∀ rs : List Rw, (∀ r ∈ rs, RwOk N r) → (∀ r ∈ rs, r.f = false) → ∀ es : List (Option Nat), EdOk N es → noFall es → (∀ s, few s N (fun A Z => Vf s N A rs Z) es) → ∃ g, doOk rs g ∧ ∀ (o e : Nat), es[o]? = some (some e) → (ledS N rs g rs.length).getD o 0 = (e : Int) := by
  refine rev_ind ?_ fun rs r ih => ?_
  · intro _ _ es he nf h
    refine ⟨[], trivial, fun o e hoe => ?_⟩
    have ho : o < N := by have := (List.getElem?_eq_some_iff.mp hoe).1; rw [he.1] at this; exact this
    have hN : e < N := he.2 e (List.mem_of_getElem? hoe)
    have one : ∀ (s : Bool) (A Z : Nat), A ≤ N → Z ≤ N → onSd s (Z : Int) o = true → fgn s (A : Int) (e : Int) = true → 1 ≤ stepI s A Z := fun s A Z hA hZ h1 h2 => by
      have h3 : (cB (seen s N es A Z) N : Int) ≤ Vf s N A [] Z := h s A Z hA hZ
      rw [V_nil] at h3
      have h4 := cB_lt (f := fun _ => false) (g := seen s N es A Z) (n := N) (w := e) (fun _ _ z => by cases z) hN (seen_iff.mpr ⟨o, ho, h1, hoe, h2⟩) (by simp)
      omega
    have l := one true e (o + 1) (by omega) (by omega) (by unfold onSd; simp; omega) (by unfold fgn; simp)
    have m := one false (e + 1) o (by omega) (by omega) (by unfold onSd; simp) (by unfold fgn; simp; omega)
    have eo : e = o := by
      simp only [stepI, if_true, Bool.false_eq_true, if_false] at l m
      split at l <;> split at m <;> omega
    subst eo
    show (ledS N [] [] 0).getD e 0 = _
    unfold ledS
    rw [List.getD_eq_getElem?_getD, List.getElem?_map, List.getElem?_range ho]
    rfl
  · intro hrs hf es he nf h
    have hr : RwOk N r := hrs r (by simp)
    have hrf : r.f = false := hf r (by simp)
    obtain ⟨k, c1, c2, G⟩ := geo_of hr
    generalize hs : lftR r = s at G
    have oth : ∀ t, t ≠ s → ¬ ownR t r = true := fun t ht => by
      unfold ownR
      rw [hs]
      intro z
      exact ht (eq_of_beq z).symm
    have ih := ih (fun q hq => hrs q (by simp [hq])) (fun q hq => hf q (by simp [hq]))
    have hother : ∀ t, t ≠ s → few t N (fun A Z => Vf t N A rs Z) es := fun t ht A Z hA hZ => by
      have : (cB (seen t N es A Z) N : Int) ≤ Vf t N A (rs ++ [r]) Z := h t A Z hA hZ
      rw [V_other (oth t ht) hZ] at this
      exact this
    have hne : ∀ A Z, A ≤ N → Z ≤ N → Z ≠ k → (cB (seen s N es A Z) N : Int) ≤ Vf s N A rs Z := fun A Z hA hZ e => by
      have : (cB (seen s N es A Z) N : Int) ≤ Vf s N A (rs ++ [r]) Z := h s A Z hA hZ
      rw [V_own_ne G.bar hZ e] at this
      exact this
    by_cases c : few s N (fun A Z => Vf s N A rs Z) es
    · obtain ⟨g, hg, hh⟩ := ih es he nf fun t => by
        by_cases e : t = s
        · rw [e]; exact c
        · exact hother t e
      have hl := doOk_len hg
      refine ⟨g ++ [false], doOk_snoc (fun z => by rw [hrf] at z; cases z) hg, fun o e hoe => ?_⟩
      rw [List.length_append, show [r].length = 1 from rfl, led_snoc hl]
      exact hh o e hoe
    · obtain ⟨A0, hA0, hc⟩ : ∃ A, A ≤ N ∧ Vf s N A rs k < (cB (seen s N es A k) N : Int) := by
        apply Classical.byContradiction
        intro d
        refine c fun A Z hA hZ => ?_
        by_cases e : Z = k
        · subst e
          exact Int.not_lt.mp fun z => d ⟨A, hA, z⟩
        · exact hne A Z hA hZ e
      have t1 : ∀ A, Vf s N A rs c1 ≤ Vf s N A rs k := fun A => by
        have := V_tri s N A rs k c1 G.kN
        rw [G.s1'] at this
        omega
      have t2 : Vf s N A0 rs c2 ≤ Vf s N A0 rs k + 1 := by
        have := V_tri s N A0 rs k c2 G.kN
        rw [G.s2'] at this
        omega
      have n1 := hne A0 c1 hA0 G.c1N G.k1
      have n2 := hne A0 c2 hA0 G.c2N G.k2
      have u1 := t1 A0
      obtain ⟨v, hvN, sv, nsv⟩ := cB_ex (f := seen s N es A0 c1) (g := seen s N es A0 k) (n := N) (by omega)
      obtain ⟨o, ho, on, hoe, fg⟩ := seen_iff.mp sv
      have hx : es[r.x]? = some (some v) := by
        have : o = r.x := by
          apply Classical.byContradiction
          intro z
          exact nsv (seen_iff.mpr ⟨o, ho, (G.on1 o).mpr ⟨on, z⟩, hoe, fg⟩)
        rw [← this]
        exact hoe
      have hxy : r.x ≠ r.y := by
        have := G.nb
        split at this <;> omega
      have hq : es[r.y]? = some none ∨ es[r.y]? = some (some v) := by
        cases hw : es[r.y]? with
        | none =>
          have := List.getElem?_eq_none_iff.mp hw
          have := G.y
          have := he.1
          omega
        | some ow =>
          cases ow with
          | none => exact .inl rfl
          | some w =>
            right
            apply Classical.byContradiction
            intro z
            have z : w ≠ v := fun y => z (by rw [y])
            have hwN : w < N := he.2 w (List.mem_of_getElem? hw)
            have kk := G.kk
            have nb := G.nb
            have ony := G.ony
            have key : fgn s (A0 : Int) (w : Int) = true ∧ ∀ o1, onSd s (k : Int) o1 = true → ¬ es[o1]? = some (some w) := by
              cases s with
              | true =>
                simp only [if_true] at kk nb
                have k1 := nf r.x r.y v w (by omega) hx hw
                unfold fgn at fg ⊢
                simp only [if_true, decide_eq_true_eq] at fg ⊢
                refine ⟨by omega, fun o1 h1 h2 => ?_⟩
                unfold onSd at h1
                simp only [if_true, decide_eq_true_eq] at h1
                by_cases e : o1 = r.x
                · rw [e, hx] at h2
                  injection h2 with h2
                  injection h2 with h2
                  exact z h2.symm
                · exact nf o1 r.x w v (by omega) h2 hx (by omega)
              | false =>
                simp only [Bool.false_eq_true, if_false] at kk nb
                have k1 := nf r.y r.x w v (by omega) hw hx
                unfold fgn at fg ⊢
                simp only [Bool.false_eq_true, if_false, decide_eq_true_eq] at fg ⊢
                refine ⟨by omega, fun o1 h1 h2 => ?_⟩
                unfold onSd at h1
                simp only [Bool.false_eq_true, if_false, decide_eq_true_eq] at h1
                by_cases e : o1 = r.x
                · rw [e, hx] at h2
                  injection h2 with h2
                  injection h2 with h2
                  exact z h2.symm
                · exact nf r.x o1 v w (by omega) hx h2 (by omega)
            have := cB_lt (f := seen s N es A0 k) (g := seen s N es A0 c2) (n := N) (w := w) (fun e he1 hs1 => by
              obtain ⟨o1, h1, h2, h3, h4⟩ := seen_iff.mp hs1
              exact seen_iff.mpr ⟨o1, h1, (G.on2 o1).mpr (.inl h2), h3, h4⟩) hwN (seen_iff.mpr ⟨r.y, G.y, (G.on2 r.y).mpr (.inr rfl), hw, key.1⟩) (fun hs1 => by
              obtain ⟨o1, h1, h2, h3, h4⟩ := seen_iff.mp hs1
              exact key.2 o1 h2 h3)
            omega
      have bg := back_get (es := es) (r := r) (v := v) G.x G.y he.1 hxy
      generalize hE : backE es r v = es' at bg
      have he' : EdOk N es' := by
        refine ⟨by rw [← hE]; unfold backE; rw [List.length_set, List.length_set]; exact he.1, fun e hm => ?_⟩
        obtain ⟨j, hj⟩ := List.mem_iff_getElem?.mp hm
        rw [bg] at hj
        split at hj
        · injection hj with hj
          injection hj with hj
          omega
        · split at hj
          · cases hj
          · exact he.2 e (List.mem_of_getElem? hj)
      have nf' : noFall es' := fun i j a b hij hi hj hba => by
        have nb := G.nb
        rw [bg] at hi hj
        by_cases ci : i = r.y
        · rw [if_pos ci] at hi
          injection hi with hi
          injection hi with hi
          rw [if_neg (by omega)] at hj
          by_cases cj : j = r.x
          · rw [if_pos cj] at hj; cases hj
          · rw [if_neg cj] at hj
            exact nf r.x j v b (by split at nb <;> omega) hx hj (by omega)
        · rw [if_neg ci] at hi
          by_cases cx : i = r.x
          · rw [if_pos cx] at hi; cases hi
          · rw [if_neg cx] at hi
            by_cases cj : j = r.y
            · rw [if_pos cj] at hj
              injection hj with hj
              injection hj with hj
              exact nf i r.x a v (by split at nb <;> omega) hi hx (by omega)
            · rw [if_neg cj] at hj
              by_cases cy : j = r.x
              · rw [if_pos cy] at hj; cases hj
              · rw [if_neg cy] at hj
                exact nf i j a b hij hi hj hba
      have same : ∀ (t : Bool) (A Z : Nat), Z ≠ k → cB (seen t N es' A Z) N ≤ cB (seen t N es A Z) N := fun t A Z hZ => seen_sub fun o e ho h1 h2 h3 => by
        rw [bg] at h2
        by_cases co : o = r.y
        · rw [if_pos co] at h2
          injection h2 with h2
          injection h2 with h2
          subst h2
          exact seen_iff.mpr ⟨r.x, G.x, (G.both t Z hZ).mpr (by rw [← co]; exact h1), hx, h3⟩
        · rw [if_neg co] at h2
          by_cases cx : o = r.x
          · rw [if_pos cx] at h2; cases h2
          · rw [if_neg cx] at h2
            exact seen_iff.mpr ⟨o, ho, h1, h2, h3⟩
      have fown : few s N (fun A Z => Vf s N A rs Z) es' := fun A Z hA hZ => by
        by_cases cz : Z = k
        · subst cz
          have k1 : cB (seen s N es' A Z) N ≤ cB (seen s N es A c1) N := seen_sub fun o e ho h1 h2 h3 => by
            rw [bg] at h2
            by_cases co : o = r.y
            · rw [co] at h1
              exact absurd h1 G.ony
            · rw [if_neg co] at h2
              by_cases cx : o = r.x
              · rw [if_pos cx] at h2; cases h2
              · rw [if_neg cx] at h2
                exact seen_iff.mpr ⟨o, ho, (G.on1 o).mpr ⟨h1, cx⟩, h2, h3⟩
          have k2 := hne A c1 hA G.c1N G.k1
          have k3 := t1 A
          show (cB (seen s N es' A Z) N : Int) ≤ Vf s N A rs Z
          omega
        · have k1 := same s A Z cz
          have k2 := hne A Z hA hZ cz
          show (cB (seen s N es' A Z) N : Int) ≤ Vf s N A rs Z
          omega
      have foth : ∀ t, t ≠ s → few t N (fun A Z => Vf t N A rs Z) es' := fun t ht A Z hA hZ => by
        have k0 := hother t ht A Z hA hZ
        show (cB (seen t N es' A Z) N : Int) ≤ Vf t N A rs Z
        by_cases cz : Z = k
        · subst cz
          by_cases d : seen t N es A Z v = true ∨ ¬ fgn t (A : Int) (v : Int) = true
          · have k1 : cB (seen t N es' A Z) N ≤ cB (seen t N es A Z) N := seen_sub fun o e ho h1 h2 h3 => by
              rw [bg] at h2
              by_cases co : o = r.y
              · rw [if_pos co] at h2
                injection h2 with h2
                injection h2 with h2
                subst h2
                rcases d with d | d
                · exact d
                · exact absurd h3 d
              · rw [if_neg co] at h2
                by_cases cx : o = r.x
                · rw [if_pos cx] at h2; cases h2
                · rw [if_neg cx] at h2
                  exact seen_iff.mpr ⟨o, ho, h1, h2, h3⟩
            have k0 : (cB (seen t N es A Z) N : Int) ≤ Vf t N A rs Z := k0
            omega
          · have d1 : ¬ seen t N es A Z v = true := fun z => d (.inl z)
            have d2 : fgn t (A : Int) (v : Int) = true := Classical.byContradiction fun z => d (.inr z)
            have k1 : cB (seen t N es' A Z) N ≤ cB (seen t N es A Z) N + 1 := (cB_one (v := v) fun e he1 hs1 => by
              obtain ⟨o, ho, h1, h2, h3⟩ := seen_iff.mp hs1
              rw [bg] at h2
              by_cases co : o = r.y
              · rw [if_pos co] at h2
                injection h2 with h2
                injection h2 with h2
                exact .inr h2.symm
              · rw [if_neg co] at h2
                by_cases cx : o = r.x
                · rw [if_pos cx] at h2; cases h2
                · rw [if_neg cx] at h2
                  exact .inl (seen_iff.mpr ⟨o, ho, h1, h2, h3⟩)).1
            have l1 := V_low s N A0 rs Z
            have l2 := V_low t N A rs Z
            have kk := G.kk
            have nb := G.nb
            have tv : ∀ o, onSd t (Z : Int) o = true → ¬ es[o]? = some (some v) := fun o h1 h2 => d1 (seen_iff.mpr ⟨o, by
              have := (List.getElem?_eq_some_iff.mp h2).1
              rw [he.1] at this
              exact this, h1, h2, d2⟩)
            cases s with
            | true =>
              cases t with
              | true => exact absurd rfl ht
              | false =>
                simp only [if_true] at kk nb
                have two := cB_two (f := seen true N es A0 Z) (g := seen false N es A Z) (n := N) (a := A0) (b := A) (fun e he1 hs1 => by
                  obtain ⟨o, ho, h1, h2, h3⟩ := seen_iff.mp hs1
                  unfold fgn at h3 d2
                  unfold onSd at h1
                  simp only [if_true, Bool.false_eq_true, if_false, decide_eq_true_eq] at h1 h3 d2
                  have ev : e ≤ v := by
                    by_cases e1 : o = r.x
                    · rw [e1, hx] at h2
                      injection h2 with h2
                      injection h2 with h2
                      omega
                    · have := nf o r.x e v (by omega) h2 hx
                      omega
                  refine ⟨by omega, by omega, fun hs2 => ?_⟩
                  obtain ⟨o2, ho2, g1, g2, g3⟩ := seen_iff.mp hs2
                  have g1' := g1
                  unfold onSd at g1
                  simp only [Bool.false_eq_true, if_false, decide_eq_true_eq] at g1
                  have := nf r.x o2 v e (by omega) hx g2
                  have : e = v := by omega
                  subst this
                  exact tv o2 g1' g2) (fun e he1 hs1 => by
                  obtain ⟨o, ho, h1, h2, h3⟩ := seen_iff.mp hs1
                  unfold fgn at h3 fg
                  unfold onSd at h1
                  simp only [if_true, Bool.false_eq_true, if_false, decide_eq_true_eq] at h1 h3 fg
                  have := nf r.x o v e (by omega) hx h2
                  omega)
                simp only [stepI, if_true, Bool.false_eq_true, if_false] at l1 l2
                split at l1 <;> split at l2 <;> omega
            | false =>
              cases t with
              | false => exact absurd rfl ht
              | true =>
                simp only [Bool.false_eq_true, if_false] at kk nb
                have two := cB_two (f := seen false N es A0 Z) (g := seen true N es A Z) (n := N) (a := A) (b := A0) (fun e he1 hs1 => by
                  obtain ⟨o, ho, h1, h2, h3⟩ := seen_iff.mp hs1
                  unfold fgn at h3 d2
                  unfold onSd at h1
                  simp only [if_true, Bool.false_eq_true, if_false, decide_eq_true_eq] at h1 h3 d2
                  have ev : v ≤ e := by
                    by_cases e1 : o = r.x
                    · rw [e1, hx] at h2
                      injection h2 with h2
                      injection h2 with h2
                      omega
                    · have := nf r.x o v e (by omega) hx h2
                      omega
                  refine ⟨by omega, by omega, fun hs2 => ?_⟩
                  obtain ⟨o2, ho2, g1, g2, g3⟩ := seen_iff.mp hs2
                  have g1' := g1
                  unfold onSd at g1
                  simp only [if_true, decide_eq_true_eq] at g1
                  have := nf o2 r.x e v (by omega) g2 hx
                  have : e = v := by omega
                  subst this
                  exact tv o2 g1' g2) (fun e he1 hs1 => by
                  obtain ⟨o, ho, h1, h2, h3⟩ := seen_iff.mp hs1
                  unfold fgn at h3 fg
                  unfold onSd at h1
                  simp only [if_true, Bool.false_eq_true, if_false, decide_eq_true_eq] at h1 h3 fg
                  have := nf o r.x e v (by omega) h2 hx
                  omega)
                simp only [stepI, if_true, Bool.false_eq_true, if_false] at l1 l2
                split at l1 <;> split at l2 <;> omega
        · have k1 := same t A Z cz
          have k0 : (cB (seen t N es A Z) N : Int) ≤ Vf t N A rs Z := k0
          omega
      obtain ⟨g, hg, hh⟩ := ih es' he' nf' fun t => by
        by_cases e : t = s
        · rw [e]; exact fown
        · exact foth t e
      have hl := doOk_len hg
      refine ⟨g ++ [true], doOk_snoc (fun _ => rfl) hg, fun o e hoe => ?_⟩
      rw [List.length_append, show [r].length = 1 from rfl, led_snoc hl, if_pos rfl]
      have hrl : (ledS N rs g rs.length).length = N := (ledS_row (N := N) (fs := g) (fun q hq => hrs q (by simp [hq])) rs.length).1
      unfold cpL
      by_cases co : o = r.x
      · subst co
        rw [hx] at hoe
        injection hoe with hoe
        injection hoe with hoe
        subst hoe
        rw [List.getD_eq_getElem?_getD, List.getElem?_set_self (by rw [hrl]; exact G.x)]
        show (ledS N rs g rs.length).getD r.y 0 = _
        exact hh r.y v (by rw [bg, if_pos rfl])
      · rw [List.getD_eq_getElem?_getD, List.getElem?_set_ne (fun z => co z.symm), ← List.getD_eq_getElem?_getD]
        refine hh o e ?_
        rw [bg]
        by_cases cy : o = r.y
        · rw [if_pos cy]
          rw [cy] at hoe
          rcases hq with hq | hq
          · rw [hq] at hoe; cases hoe
          · rw [hq] at hoe
            exact hoe
        · rw [if_neg cy, if_neg co]
          exact hoe
/-! ## the easy half -/
theorem cov_all : ∀ rs : List Rw, (∀ r ∈ rs, RwOk N r) → ∀ g : List Bool, g.length = rs.length → ∀ (s : Bool) (A Z : Nat), A ≤ N → Z ≤ N → ∃ L, Cov s N (A : Int) (Z : Int) (ledS N rs g rs.length) L ∧ (L.length : Int) ≤ Vf s N A rs Z := by
  refine rev_ind ?_ fun rs r ih => ?_
  · intro _ g _ s A Z hA hZ
    have c0 : Cov s N (A : Int) (A : Int) (ledS N [] g 0) [] := fun o ho on fg => by
      have e : (ledS N [] g 0).getD o 0 = (o : Int) := by
        unfold ledS
        rw [List.getD_eq_getElem?_getD, List.getElem?_map, List.getElem?_range ho]
        rfl
      rw [e] at fg
      unfold onSd at on
      unfold fgn at fg
      cases s <;> simp at on fg <;> omega
    obtain ⟨L, h1, h2⟩ := cov_walk (h' := (Z : Int)) (by omega) (by omega) c0
    refine ⟨L, h1, ?_⟩
    rw [V_nil, h2]
    simp
  · intro hrs g hg s A Z hA hZ
    have hg0 : g ≠ [] := fun z => by rw [z] at hg; simp at hg
    obtain ⟨g', f, rfl⟩ : ∃ g' f, g = g' ++ [f] := ⟨g.dropLast, g.getLast hg0, (List.dropLast_concat_getLast hg0).symm⟩
    have hl : g'.length = rs.length := by simpa using hg
    have hrs' : ∀ q ∈ rs, RwOk N q := fun q hq => hrs q (by simp [hq])
    obtain ⟨c, hc, hb, e⟩ := stepV_ex s N r (Vf s N A rs) Z
    obtain ⟨L, h1, h2⟩ := ih hrs' g' hl s A c hA hc
    have h3 : Cov s N (A : Int) (c : Int) (ledS N (rs ++ [r]) (g' ++ [f]) (rs ++ [r]).length) L := by
      rw [List.length_append, show [r].length = 1 from rfl, led_snoc hl]
      cases f with
      | true =>
        rw [if_pos rfl]
        exact cov_row h1 (hrs r (by simp)) (ledS_row (N := N) (fs := g') hrs' rs.length).1 hb
      | false => exact h1
    obtain ⟨L', h4, h5⟩ := cov_walk (h' := (Z : Int)) (by omega) (by omega) h3
    refine ⟨L', h4, ?_⟩
    rw [V_snoc]
    omega
/-- a list can be -/
def canL (N : Nat) (rs : List Rw) (es : List (Option Nat)) : Prop := ∃ g, doOk rs g ∧ ∀ (o e : Nat), es[o]? = some (some e) → (ledS N rs g rs.length).getD o 0 = (e : Int)
theorem nd_sub : ∀ {x y : List Int}, x.Nodup → (∀ a ∈ x, a ∈ y) → x.length ≤ y.length
  | [], _, _, _ => Nat.zero_le _
  | a :: x, y, hn, hs => by
    obtain ⟨h1, h2⟩ := List.nodup_cons.mp hn
    have ha := hs a (by simp)
    have ih := nd_sub (x := x) (y := y.erase a) h2 fun b hb => (List.mem_erase_of_ne (show b ≠ a from fun (e : b = a) => h1 (by rw [← e]; exact hb))).mpr (hs b (by simp [hb]))
    rw [List.length_erase_of_mem ha] at ih
    have := List.length_pos_of_mem ha
    simp only [List.length_cons]
    omega
theorem can_iff (hrs : ∀ r ∈ rs, RwOk N r) (hf : ∀ r ∈ rs, r.f = false) (he : EdOk N es) : canL N rs es ↔ noFall es ∧ ∀ s, few s N (fun A Z => Vf s N A rs Z) es := by
  constructor
  · rintro ⟨g, hg, hh⟩
    have hr := ledS_row (N := N) (fs := g) hrs rs.length
    have at' : ∀ o e : Nat, es[o]? = some (some e) → o < N ∧ (ledS N rs g rs.length).getD o 0 = (e : Int) := fun o e h => by
      have ho := (List.getElem?_eq_some_iff.mp h).1
      rw [he.1] at ho
      exact ⟨ho, hh o e h⟩
    constructor
    · intro i j a b hij hi hj hba
      obtain ⟨i1, i2⟩ := at' i a hi
      obtain ⟨j1, j2⟩ := at' j b hj
      have pw := (ris_all hr.2).1
      have := List.pairwise_iff_getElem.mp pw i j (by rw [hr.1]; exact i1) (by rw [hr.1]; exact j1) hij
      rw [List.getD_eq_getElem?_getD, List.getElem?_eq_getElem (by rw [hr.1]; exact i1)] at i2
      rw [List.getD_eq_getElem?_getD, List.getElem?_eq_getElem (by rw [hr.1]; exact j1)] at j2
      have i2 : (ledS N rs g rs.length)[i]'(by rw [hr.1]; exact i1) = (a : Int) := i2
      have j2 : (ledS N rs g rs.length)[j]'(by rw [hr.1]; exact j1) = (b : Int) := j2
      omega
    · intro s A Z hA hZ
      obtain ⟨L, h1, h2⟩ := cov_all rs hrs g (doOk_len hg) s A Z hA hZ
      have h3 : (((List.range N).filter (seen s N es A Z)).map fun (i : Nat) => (i : Int)).length ≤ L.length := nd_sub (by
        refine List.Pairwise.map _ (fun _ _ h => ?_) (List.nodup_range.filter _)
        omega) fun v hv => by
        obtain ⟨e, he1, rfl⟩ := List.mem_map.mp hv
        obtain ⟨o, ho, x2, x1, x3⟩ := seen_iff.mp (List.mem_filter.mp he1).2
        obtain ⟨y1, y2⟩ := at' o e x1
        have := h1 o y1 x2 (by rw [y2]; exact x3)
        rw [y2] at this
        exact this
      rw [List.length_map, filter_cB] at h3
      show (cB (seen s N es A Z) N : Int) ≤ Vf s N A rs Z
      omega
  · rintro ⟨h1, h2⟩
    exact main_led rs hrs hf es he h1 h2
/-! ## lists close to a post -/
theorem cB_int {f : Nat → Bool} {a b n : Nat} (h : ∀ e, e < n → f e = true → a ≤ e ∧ e < b) : cB f n ≤ b - a := by
  have := cB_two (f := f) (g := fun _ => false) (a := a) (b := b) (n := n) (fun e he hf => ⟨(h e he hf).1, (h e he hf).2, by simp⟩) (fun e _ z => by cases z)
  omega
theorem cB_ge {f : Nat → Bool} {a b : Nat} : ∀ {n : Nat}, (∀ e, a ≤ e → e < b → f e = true) → min n b - a ≤ cB f n
  | 0, _ => by omega
  | n + 1, h => by
    have ih := cB_ge (n := n) h
    unfold cB
    by_cases c : a ≤ n ∧ n < b
    · rw [if_pos (h n c.1 c.2)]; omega
    · omega
/-- the start may be walked to -/
theorem V_start (s : Bool) {a a' : Nat} (ha : a' ≤ N) : ∀ rs : List Rw, ∀ g : Nat, g ≤ N → Vf s N a rs g ≤ stepI s a a' + Vf s N a' rs g := by
  refine rev_ind ?_ fun rs r ih => ?_
  · intro g hg
    rw [V_nil, V_nil]
    exact step_tri s a a' g
  · intro g hg
    rw [V_snoc, V_snoc]
    obtain ⟨c, hc, hb, e⟩ := stepV_ex s N r (Vf s N a' rs) g
    have h1 := stepV_le (V := Vf s N a rs) (g := g) hc hb
    have h2 := ih c hc
    omega
/-- so many editions, nearest to a cut, at the offices nearest to another one -/
def closeE (s : Bool) (N A Z m : Nat) : List (Option Nat) := (List.range N).map fun o => if s then (if Z ≤ o + m ∧ o < Z then some (A + (o + m - Z)) else none) else (if Z ≤ o ∧ o < Z + m then some (A - m + (o - Z)) else none)
theorem close_at {m : Nat} : (closeE s N A Z m)[o]? = some (some e) ↔ o < N ∧ (if s = true then Z ≤ o + m ∧ o < Z ∧ e = A + (o + m - Z) else Z ≤ o ∧ o < Z + m ∧ e = A - m + (o - Z)) := by
  unfold closeE
  rw [List.getElem?_map]
  by_cases h : o < N
  · rw [List.getElem?_range h]
    cases s
    · simp only [Option.map_some, Bool.false_eq_true, if_false, Option.some.injEq]
      by_cases c : Z ≤ o ∧ o < Z + m
      · rw [if_pos c]
        simp only [Option.some.injEq]
        omega
      · rw [if_neg c]
        constructor
        · intro z; cases z
        · intro z; exact absurd ⟨z.2.1, z.2.2.1⟩ c
    · simp only [Option.map_some, if_true, Option.some.injEq]
      by_cases c : Z ≤ o + m ∧ o < Z
      · rw [if_pos c]
        simp only [Option.some.injEq]
        omega
      · rw [if_neg c]
        constructor
        · intro z; cases z
        · intro z; exact absurd ⟨z.2.1, z.2.2.1⟩ c
  · rw [List.getElem?_eq_none (by simp; omega)]
    constructor
    · intro z; cases z
    · intro z; exact absurd z.1 h
/-- what fits into a post -/
structure CloP (s : Bool) (N A Z m : Nat) : Prop where
  a : A ≤ N
  z : Z ≤ N
  m1 : if s = true then m ≤ Z ∧ A + m ≤ N else Z + m ≤ N ∧ m ≤ A
  m2 : if s = true then (Z : Int) - A ≤ m else (A : Int) - Z ≤ m
theorem close_ed {m : Nat} (h : CloP s N A Z m) : EdOk N (closeE s N A Z m) := by
  refine ⟨by unfold closeE; simp, fun e he => ?_⟩
  obtain ⟨o, ho⟩ := List.mem_iff_getElem?.mp he
  obtain ⟨h1, h2⟩ := close_at.mp ho
  have := h.m1
  have ha := h.a
  have hz := h.z
  cases s <;> simp at h2 this <;> omega
theorem close_fall {m : Nat} : noFall (closeE s N A Z m) := fun i j a b hij hi hj hba => by
  obtain ⟨h1, h2⟩ := close_at.mp hi
  obtain ⟨h3, h4⟩ := close_at.mp hj
  cases s <;> simp at h2 h4 <;> omega
theorem close_few {m : Nat} (h : CloP s N A Z m) (hm : (m : Int) ≤ Vf s N A rs Z) : ∀ t, few t N (fun A Z => Vf t N A rs Z) (closeE s N A Z m) := fun t A' Z' hA' hZ' => by
  show (cB (seen t N (closeE s N A Z m) A' Z') N : Int) ≤ Vf t N A' rs Z'
  have v0 := V_nn t N A' rs Z'
  have vl := V_low t N A' rs Z'
  have m1 := h.m1
  have m2 := h.m2
  have hA := h.a
  have hZ := h.z
  cases s with
  | true =>
    simp only [if_true] at m1 m2
    cases t with
    | true =>
      have c := cB_int (f := seen true N (closeE true N A Z m) A' Z') (n := N) (a := max A A') (b := min (A + m) (A + (Z' + m - Z))) fun e he hs => by
        obtain ⟨o, ho, h1, h2, h3⟩ := seen_iff.mp hs
        obtain ⟨_, h4⟩ := close_at.mp h2
        unfold onSd at h1
        unfold fgn at h3
        simp only [if_true, decide_eq_true_eq] at h1 h3 h4
        omega
      have v1 := V_start (N := N) true (a := A) (a' := A') hA' rs Z hZ
      have v2 := V_tri true N A' rs Z' Z hZ'
      simp only [stepI, if_true] at v1 v2
      split at v1 <;> split at v2 <;> omega
    | false =>
      have c := cB_int (f := seen false N (closeE true N A Z m) A' Z') (n := N) (a := A + (Z' + m - Z)) (b := A') fun e he hs => by
        obtain ⟨o, ho, h1, h2, h3⟩ := seen_iff.mp hs
        obtain ⟨_, h4⟩ := close_at.mp h2
        unfold onSd at h1
        unfold fgn at h3
        simp only [if_true, Bool.false_eq_true, if_false, decide_eq_true_eq] at h1 h3 h4
        omega
      simp only [stepI, Bool.false_eq_true, if_false] at vl
      split at vl <;> omega
  | false =>
    simp only [Bool.false_eq_true, if_false] at m1 m2
    cases t with
    | false =>
      have c := cB_int (f := seen false N (closeE false N A Z m) A' Z') (n := N) (a := A - m + (Z' - Z)) (b := min A A') fun e he hs => by
        obtain ⟨o, ho, h1, h2, h3⟩ := seen_iff.mp hs
        obtain ⟨_, h4⟩ := close_at.mp h2
        unfold onSd at h1
        unfold fgn at h3
        simp only [Bool.false_eq_true, if_false, decide_eq_true_eq] at h1 h3 h4
        omega
      have v1 := V_start (N := N) false (a := A) (a' := A') hA' rs Z hZ
      have v2 := V_tri false N A' rs Z' Z hZ'
      simp only [stepI, Bool.false_eq_true, if_false] at v1 v2
      split at v1 <;> split at v2 <;> omega
    | true =>
      by_cases cz : Z' ≤ Z
      · have c := cB_int (f := seen true N (closeE false N A Z m) A' Z') (n := N) (a := 0) (b := 0) fun e he hs => by
          obtain ⟨o, ho, h1, h2, h3⟩ := seen_iff.mp hs
          obtain ⟨_, h4⟩ := close_at.mp h2
          unfold onSd at h1
          simp only [if_true, Bool.false_eq_true, if_false, decide_eq_true_eq] at h1 h4
          omega
        omega
      have c := cB_int (f := seen true N (closeE false N A Z m) A' Z') (n := N) (a := A') (b := A - m + (Z' - Z)) fun e he hs => by
        obtain ⟨o, ho, h1, h2, h3⟩ := seen_iff.mp hs
        obtain ⟨_, h4⟩ := close_at.mp h2
        unfold onSd at h1
        unfold fgn at h3
        simp only [if_true, Bool.false_eq_true, if_false, decide_eq_true_eq] at h1 h3 h4
        omega
      simp only [stepI, if_true] at vl
      split at vl <;> omega
theorem close_many {m : Nat} (h : CloP s N A Z m) : m ≤ cB (seen s N (closeE s N A Z m) A Z) N := by
  have m1 := h.m1
  have hA := h.a
  have hZ := h.z
  cases s with
  | true =>
    simp only [if_true] at m1
    have := cB_ge (f := seen true N (closeE true N A Z m) A Z) (n := N) (a := A) (b := A + m) fun e h1 h2 => by
      refine seen_iff.mpr ⟨Z - m + (e - A), by omega, ?_, close_at.mpr ⟨by omega, ?_⟩, ?_⟩
      · unfold onSd
        simp only [if_true, decide_eq_true_eq]
        omega
      · simp only [if_true]
        omega
      · unfold fgn
        simp only [if_true, decide_eq_true_eq]
        omega
    omega
  | false =>
    simp only [Bool.false_eq_true, if_false] at m1
    have := cB_ge (f := seen false N (closeE false N A Z m) A Z) (n := N) (a := A - m) (b := A) fun e h1 h2 => by
      refine seen_iff.mpr ⟨Z + (e - (A - m)), by omega, ?_, close_at.mpr ⟨by omega, ?_⟩, ?_⟩
      · unfold onSd
        simp only [Bool.false_eq_true, if_false, decide_eq_true_eq]
        omega
      · simp only [Bool.false_eq_true, if_false]
        omega
      · unfold fgn
        simp only [Bool.false_eq_true, if_false, decide_eq_true_eq]
        omega
    omega
theorem close_can {m : Nat} (hrs : ∀ r ∈ rs, RwOk N r) (hf : ∀ r ∈ rs, r.f = false) (h : CloP s N A Z m) (hm : (m : Int) ≤ Vf s N A rs Z) : canL N rs (closeE s N A Z m) :=
  (can_iff hrs hf (close_ed h)).mpr ⟨close_fall, close_few h hm⟩
theorem close_not {m : Nat} (hrs : ∀ r ∈ rs, RwOk N r) (hf : ∀ r ∈ rs, r.f = false) (h : CloP s N A Z m) (hm : Vf s N A rs Z < (m : Int)) : ¬ canL N rs (closeE s N A Z m) := fun c => by
  have h1 := ((can_iff hrs hf (close_ed h)).mp c).2 s A Z h.a h.z
  have h1 : (cB (seen s N (closeE s N A Z m) A Z) N : Int) ≤ Vf s N A rs Z := h1
  have h2 := close_many h
  omega
/-- the price is no more than what there is -/
theorem V_few (hrs : ∀ r ∈ rs, RwOk N r) (hA : A ≤ N) (hZ : Z ≤ N) : if s = true then Vf s N A rs Z ≤ Z ∧ Vf s N A rs Z ≤ (N : Int) - A else Vf s N A rs Z ≤ (N : Int) - Z ∧ Vf s N A rs Z ≤ A := by
  have t0 := V_tri s N A rs
  cases s with
  | true =>
    simp only [if_true]
    -- walking right from the first cut, or to the last
    have a0 : Vf true N A rs 0 ≤ 0 := by
      have z : ∀ rs : List Rw, Vf true N A rs 0 ≤ 0 := by
        refine rev_ind ?_ fun rs r ih => ?_
        · rw [V_nil]; simp only [stepI, if_true]; split <;> omega
        · rw [V_snoc]
          have := stepV_le (s := true) (N := N) (r := r) (V := Vf true N A rs) (c := 0) (g := 0) (by omega) (bar0 true r)
          rw [step_self] at this
          omega
      exact z rs
    have n0 : Vf true N N rs Z ≤ 0 := by
      have z : ∀ rs : List Rw, (∀ r ∈ rs, RwOk N r) → ∀ g : Nat, g ≤ N → Vf true N N rs g ≤ 0 := by
        refine rev_ind ?_ fun rs r ih => ?_
        · intro _ g hg; rw [V_nil]; simp only [stepI, if_true]; split <;> omega
        · intro hrs g hg
          rw [V_snoc]
          have hr := hrs r (by simp)
          have := stepV_le (s := true) (N := N) (r := r) (V := Vf true N N rs) (c := N) (g := g) (Nat.le_refl _) (fun z => by
            unfold barI at z
            have := low_lt hr
            split at z <;> omega)
          have i := ih (fun q hq => hrs q (by simp [hq])) N (Nat.le_refl _)
          have st : stepI true (N : Int) g = 0 := by simp only [stepI, if_true]; split <;> omega
          omega
      exact z rs hrs Z hZ
    have h1 := t0 0 Z (by omega)
    have h2 := V_start (N := N) true (a := A) (a' := N) (Nat.le_refl _) rs Z hZ
    simp only [stepI, if_true] at h1 h2
    split at h1 <;> split at h2 <;> omega
  | false =>
    simp only [Bool.false_eq_true, if_false]
    have a0 : Vf false N A rs N ≤ 0 := by
      have z : ∀ rs : List Rw, (∀ r ∈ rs, RwOk N r) → Vf false N A rs N ≤ 0 := by
        refine rev_ind ?_ fun rs r ih => ?_
        · intro _; rw [V_nil]; simp only [stepI, Bool.false_eq_true, if_false]; split <;> omega
        · intro hrs
          rw [V_snoc]
          have hr := hrs r (by simp)
          have := stepV_le (s := false) (N := N) (r := r) (V := Vf false N A rs) (c := N) (g := N) (Nat.le_refl _) (fun z => by
            unfold barI at z
            have := low_lt hr
            split at z <;> omega)
          rw [step_self] at this
          have i := ih (fun q hq => hrs q (by simp [hq]))
          omega
      exact z rs hrs
    have n0 : Vf false N 0 rs Z ≤ 0 := by
      have z : ∀ rs : List Rw, ∀ g : Nat, g ≤ N → Vf false N 0 rs g ≤ 0 := by
        refine rev_ind ?_ fun rs r ih => ?_
        · intro g hg; rw [V_nil]; simp only [stepI, Bool.false_eq_true, if_false]; split <;> omega
        · intro g hg
          rw [V_snoc]
          have := stepV_le (s := false) (N := N) (r := r) (V := Vf false N 0 rs) (c := 0) (g := g) (by omega) (bar0 false r)
          have i := ih 0 (by omega)
          have st : stepI false ((0 : Nat) : Int) g = 0 := by simp only [stepI, Bool.false_eq_true, if_false]; split <;> omega
          omega
      exact z rs Z hZ
    have h1 := t0 N Z (Nat.le_refl _)
    have h2 := V_start (N := N) false (a := A) (a' := 0) (by omega) rs Z hZ
    simp only [stepI, Bool.false_eq_true, if_false] at h1 h2
    split at h1 <;> split at h2 <;> omega
/-- a list just above the one price and not above the other -/
theorem clo_of (hrs : ∀ r ∈ rs, RwOk N r) (hqs : ∀ r ∈ qs, RwOk N r) (hA : A ≤ N) (hZ : Z ≤ N) (h : Vf s N A rs Z < Vf s N A qs Z) : CloP s N A Z ((Vf s N A rs Z).toNat + 1) ∧ (((Vf s N A rs Z).toNat + 1 : Nat) : Int) = Vf s N A rs Z + 1 := by
  have v0 := V_nn s N A rs Z
  have v1 := V_few (s := s) hqs hA hZ
  have v2 := V_low s N A rs Z
  refine ⟨⟨hA, hZ, ?_, ?_⟩, by omega⟩
  · cases s with
    | true =>
      simp only [if_true] at v1 ⊢
      omega
    | false =>
      simp only [Bool.false_eq_true, if_false] at v1 ⊢
      omega
  · cases s with
    | true =>
      simp only [if_true] at v2 ⊢
      simp only [stepI, if_true] at v2
      split at v2 <;> omega
    | false =>
      simp only [Bool.false_eq_true, if_false] at v2 ⊢
      simp only [stepI, Bool.false_eq_true, if_false] at v2
      split at v2 <;> omega
/-- every list of the other one can be for the one: no price is less -/
theorem all_iff (hrs : ∀ r ∈ rs, RwOk N r) (hqs : ∀ r ∈ qs, RwOk N r) (hf : ∀ r ∈ rs, r.f = false) (hg : ∀ r ∈ qs, r.f = false) :
    (∀ es, EdOk N es → canL N qs es → canL N rs es) ↔ ∀ s A Z, A ≤ N → Z ≤ N → Vf s N A qs Z ≤ Vf s N A rs Z := by
  constructor
  · intro h s A Z hA hZ
    apply Classical.byContradiction
    intro c
    obtain ⟨h1, h2⟩ := clo_of (s := s) hrs hqs hA hZ (by omega)
    exact close_not hrs hf h1 (by omega) (h _ (close_ed h1) (close_can hqs hg h1 (by omega)))
  · intro h es he hc
    obtain ⟨h1, h2⟩ := (can_iff hqs hg he).mp hc
    exact (can_iff hrs hf he).mpr ⟨h1, fun s A Z hA hZ => Int.le_trans (h2 s A Z hA hZ) (h s A Z hA hZ)⟩
/-! ## the fourth fact -/
theorem hit_v {s : Bool} {x y : Int} (hx : 0 ≤ x ∧ x < N) (hy : 0 ≤ y ∧ y < N) (h : ∀ A : Nat, A ≤ N → hitI s (A : Int) x = hitI s (A : Int) y) : x = y := by
  have h1 := h x.toNat (by omega)
  have h2 := h y.toNat (by omega)
  have h3 := h (x.toNat + 1) (by omega)
  have h4 := h (y.toNat + 1) (by omega)
  unfold hitI hitB at h1 h2 h3 h4
  cases s with
  | true =>
    simp only [if_true, decide_eq_true_eq] at h1 h2
    split at h1 <;> split at h1 <;> split at h2 <;> split at h2 <;> omega
  | false =>
    simp only [Bool.false_eq_true, if_false, decide_eq_true_eq] at h3 h4
    split at h3 <;> split at h3 <;> split at h4 <;> split at h4 <;> omega
theorem cnt_sucQ {l : List Int} {b : Nat} (hb : b < l.length) : (if s = true then cntS s l a (b + 1) - cntS s l a b else cntS s l a b - cntS s l a (b + 1)) = hitI s a (l.getD b 0) := by
  cases s with
  | true =>
    simp only [if_true]
    unfold cntS
    simp only [if_true]
    show preP true l a b + hitI true a (l.getD b 0) - preP true l a b = _
    omega
  | false =>
    simp only [Bool.false_eq_true, if_false]
    unfold cntS
    simp only [Bool.false_eq_true, if_false]
    show preP false l a l.length - preP false l a b - (preP false l a l.length - (preP false l a b + hitI false a (l.getD b 0))) = _
    omega
theorem ord_same {l m : List Int} (hl : l.length = N) (hm : m.length = N) (bl : ∀ x ∈ l, 0 ≤ x ∧ x < N) (bm : ∀ x ∈ m, 0 ≤ x ∧ x < N) (h : ∀ A Z : Nat, A ≤ N → Z ≤ N → cntS s l (A : Int) Z = cntS s m (A : Int) Z) : l = m := by
  apply List.ext_getElem?
  intro b
  by_cases hb : b < N
  · have e1 : l[b]? = some (l.getD b 0) := by rw [List.getD_eq_getElem?_getD, List.getElem?_eq_getElem (by omega)]; rfl
    have e2 : m[b]? = some (m.getD b 0) := by rw [List.getD_eq_getElem?_getD, List.getElem?_eq_getElem (by omega)]; rfl
    rw [e1, e2, hit_v (N := N) (s := s) (bl _ (List.mem_of_getElem? e1)) (bm _ (List.mem_of_getElem? e2)) fun A hA => by
      rw [← cnt_sucQ (by omega), ← cnt_sucQ (by omega), h A b hA (by omega), h A (b + 1) hA (by omega)]]
  · rw [List.getElem?_eq_none (by omega), List.getElem?_eq_none (by omega)]
end
end TK

set_option Elab.async false
set_option linter.all false
set_option maxRecDepth 100000
set_option maxHeartbeats 4000000
namespace TK
open PySem PySem.Spec
open PyProof.Rows hiding St
open L2
/-! # the fourth fact; rows that are needless, plainly -/
section
variable {N i j c : Nat} {x y l m : List Int} {rs qs : List Rw} {J K : List (List Int)} {es : List (Option Nat)} {r : Rw} {s : Bool}
theorem add_nodup (h : J.Nodup) : (addJ J x).Nodup := by
  unfold addJ
  split
  · exact h
  · rename_i c
    rw [List.nodup_append]
    exact ⟨h, by simp, fun a ha b hb => by rw [List.mem_singleton.mp hb]; exact fun e => c (e ▸ ha)⟩
theorem finB_nodup (h : J.Nodup) : (finB r J x).Nodup := by
  unfold finB
  split
  · exact add_nodup h
  · exact add_nodup (add_nodup h)
theorem fold_nodup : ∀ (K J : List (List Int)), J.Nodup → (K.foldl (finB r) J).Nodup
  | [], J, h => h
  | x :: K, J, h => by
    rw [List.foldl_cons]
    exact fold_nodup K _ (finB_nodup h)
theorem finL_nodup : (finL N rs).Nodup := by
  unfold finL
  have key : ∀ (rs : List Rw) (K : List (List Int)), K.Nodup → (rs.foldl (fun K r => finK r K) K).Nodup := fun rs => by
    induction rs with
    | nil => intro K h; exact h
    | cons r rs ih => intro K h; rw [List.foldl_cons]; exact ih _ (fold_nodup _ _ List.nodup_nil)
  exact key rs _ (by simp)
theorem fin_all : x ∈ finL N rs ↔ ∃ g, doOk rs g ∧ x = ledS N rs g rs.length := by
  have e := finL_mem (N := N) (rs := rs) (x := x) (i := rs.length) (Nat.le_refl _)
  rw [List.take_length] at e
  rw [e]
  constructor
  · rintro ⟨g, h1, h2⟩
    exact ⟨g, dosL_mem.mp h1, h2⟩
  · rintro ⟨g, h1, h2⟩
    exact ⟨g, dosL_mem.mpr h1, h2⟩
theorem can_fin : canL N rs es ↔ ∃ x ∈ finL N rs, ∀ (o e : Nat), es[o]? = some (some e) → x.getD o 0 = (e : Int) := by
  constructor
  · rintro ⟨g, h1, h2⟩
    exact ⟨_, fin_all.mpr ⟨g, h1, rfl⟩, h2⟩
  · rintro ⟨x, hx, h⟩
    obtain ⟨g, h1, rfl⟩ := fin_all.mp hx
    exact ⟨g, h1, h⟩
def edsL (x : List Int) : List (Option Nat) := x.map fun v => some v.toNat
theorem eds_at {o e : Nat} : (edsL x)[o]? = some (some e) ↔ ∃ v, x[o]? = some v ∧ v.toNat = e := by
  unfold edsL
  rw [List.getElem?_map]
  cases x[o]? with
  | none => simp
  | some v => simp
theorem fin_row (hrs : ∀ r ∈ rs, RwOk N r) (hx : x ∈ finL N rs) : x.length = N ∧ ∀ v ∈ x, 0 ≤ v ∧ v < N := by
  obtain ⟨g, _, rfl⟩ := fin_all.mp hx
  have hr := ledS_row (N := N) (fs := g) hrs rs.length
  refine ⟨hr.1, fun v hv => ?_⟩
  have := (ris_all hr.2).2 v hv
  omega
theorem eds_ok (hrs : ∀ r ∈ rs, RwOk N r) (hx : x ∈ finL N rs) : EdOk N (edsL x) := by
  obtain ⟨h1, h2⟩ := fin_row hrs hx
  refine ⟨by unfold edsL; simp [h1], fun e he => ?_⟩
  obtain ⟨o, ho⟩ := List.mem_iff_getElem?.mp he
  obtain ⟨v, hv, rfl⟩ := eds_at.mp ho
  have := h2 v (List.mem_of_getElem? hv)
  omega
theorem eds_self (h2 : ∀ v ∈ x, 0 ≤ v ∧ v < N) : ∀ (o e : Nat), (edsL x)[o]? = some (some e) → x.getD o 0 = (e : Int) := fun o e h => by
  obtain ⟨v, hv, rfl⟩ := eds_at.mp h
  have := h2 v (List.mem_of_getElem? hv)
  rw [List.getD_eq_getElem?_getD, hv]
  show v = _
  omega
theorem eds_only (hl : x.length = N) (hy : y.length = N) (h2 : ∀ v ∈ x, 0 ≤ v ∧ v < N) (h : ∀ (o e : Nat), (edsL x)[o]? = some (some e) → y.getD o 0 = (e : Int)) : y = x := by
  apply List.ext_getElem?
  intro o
  by_cases ho : o < N
  · have ex := List.getElem?_eq_getElem (l := x) (i := o) (by omega)
    have ey := List.getElem?_eq_getElem (l := y) (i := o) (by omega)
    have := h o (x[o]'(by omega)).toNat (eds_at.mpr ⟨_, ex, rfl⟩)
    rw [List.getD_eq_getElem?_getD, ey] at this
    have t : y[o]'(by omega) = ((x[o]'(by omega)).toNat : Int) := this
    have := h2 _ (List.mem_of_getElem? ex)
    rw [ex, ey, t]
    congr 1
    omega
  · rw [List.getElem?_eq_none (by omega), List.getElem?_eq_none (by omega)]
theorem sub_iff (hrs : ∀ r ∈ rs, RwOk N r) (hqs : ∀ r ∈ qs, RwOk N r) : (∀ x ∈ finL N qs, x ∈ finL N rs) ↔ ∀ es, EdOk N es → canL N qs es → canL N rs es := by
  constructor
  · intro h es _ hc
    obtain ⟨x, hx, h1⟩ := can_fin.mp hc
    exact can_fin.mpr ⟨x, h x hx, h1⟩
  · intro h x hx
    obtain ⟨h1, h2⟩ := fin_row hqs hx
    obtain ⟨y, hy, h3⟩ := can_fin.mp (h _ (eds_ok hqs hx) (can_fin.mpr ⟨x, hx, eds_self h2⟩))
    obtain ⟨h4, _⟩ := fin_row hrs hy
    rw [← eds_only h1 h4 h2 h3]
    exact hy
def sameO (N : Nat) (rs qs : List Rw) : Prop := ordS true (begS N) rs = ordS true (begS N) qs ∧ ordS false (begS N) rs = ordS false (begS N) qs
instance : Decidable (sameO N rs qs) := by unfold sameO; infer_instance
theorem ord_b (hrs : ∀ r ∈ rs, RwOk N r) (s : Bool) : ∀ x ∈ ordS s (begS N) rs, 0 ≤ x ∧ x < N := perm_mem (ord_pm s hrs)
theorem V_same (hrs : ∀ r ∈ rs, RwOk N r) (hqs : ∀ r ∈ qs, RwOk N r) : (∀ s A Z, A ≤ N → Z ≤ N → Vf s N A rs Z = Vf s N A qs Z) ↔ sameO N rs qs := by
  constructor
  · intro h
    have key : ∀ s, ordS s (begS N) rs = ordS s (begS N) qs := fun s => ord_same (N := N) (s := s) (by rw [ord_len, beg_len]) (by rw [ord_len, beg_len]) (ord_b hrs s) (ord_b hqs s) fun A Z hA hZ => by
      rw [← V_count hA hrs Z hZ, ← V_count hA hqs Z hZ]
      exact h s A Z hA hZ
    exact ⟨key true, key false⟩
  · rintro ⟨h1, h2⟩ s A Z hA hZ
    rw [V_count hA hrs Z hZ, V_count hA hqs Z hZ]
    cases s
    · rw [h2]
    · rw [h1]
/-- THE FOURTH FACT -/
theorem fin_same (hrs : ∀ r ∈ rs, RwOk N r) (hqs : ∀ r ∈ qs, RwOk N r) (hf : ∀ r ∈ rs, r.f = false) (hg : ∀ r ∈ qs, r.f = false) : (∀ x, x ∈ finL N rs ↔ x ∈ finL N qs) ↔ sameO N rs qs := by
  rw [← V_same hrs hqs]
  constructor
  · intro h s A Z hA hZ
    have h1 := (all_iff hrs hqs hf hg).mp ((sub_iff hrs hqs).mp fun x hx => (h x).mpr hx) s A Z hA hZ
    have h2 := (all_iff hqs hrs hg hf).mp ((sub_iff hqs hrs).mp fun x hx => (h x).mp hx) s A Z hA hZ
    omega
  · intro h x
    constructor
    · exact (sub_iff hqs hrs).mpr ((all_iff hqs hrs hg hf).mpr fun s A Z hA hZ => by rw [h s A Z hA hZ]; exact Int.le_refl _) x
    · exact (sub_iff hrs hqs).mpr ((all_iff hrs hqs hf hg).mpr fun s A Z hA hZ => by rw [h s A Z hA hZ]; exact Int.le_refl _) x
theorem sortL_same (hx : J.Nodup) (hy : K.Nodup) : sortL J = sortL K ↔ ∀ x, x ∈ J ↔ x ∈ K := by
  constructor
  · intro h x
    rw [← (sortL_perm J).mem_iff, h, (sortL_perm K).mem_iff]
  · intro h
    refine sortL_eq ((sortL_perm J).trans (((List.perm_ext_iff_of_nodup hx hy).mpr h).trans (sortL_perm K).symm)) (sortL_sorted J) (sortL_sorted K)
/-! ## rows left out -/
def skipR (rs : List Rw) (i : Nat) : List Rw := rs.take i ++ rs.drop (i + 1)
theorem skip_mem (h : r ∈ skipR rs i) : r ∈ rs := by
  rcases List.mem_append.mp h with h | h
  · exact List.mem_of_mem_take h
  · exact List.mem_of_mem_drop h
theorem skip_len (h : i < rs.length) : (skipR rs i).length + 1 = rs.length := by
  unfold skipR
  simp
  omega
def needB (N : Nat) (rs : List Rw) (i : Nat) : Bool := decide (sameO N (skipR rs i) rs)
def ndL (N : Nat) (rs : List Rw) : List Nat := (List.range rs.length).filter (needB N rs)
theorem nd_mem : i ∈ ndL N rs ↔ i < rs.length ∧ needB N rs i = true := by
  unfold ndL
  rw [List.mem_filter, List.mem_range]
theorem sw_up (h : c + 1 < l.length) (hne : swS l c ≠ l) : invI (swS l c) = invI l + 1 := by
  obtain ⟨A, x, y, B, rfl, hA⟩ := two_at h
  subst hA
  have gx : (A ++ x :: y :: B).getD A.length 0 = x := by rw [List.getD_eq_getElem?_getD, List.getElem?_append_right (Nat.le_refl _)]; simp
  have gy : (A ++ x :: y :: B).getD (A.length + 1) 0 = y := by rw [List.getD_eq_getElem?_getD, List.getElem?_append_right (by omega)]; simp
  have es : ((A ++ x :: y :: B).set A.length y).set (A.length + 1) x = A ++ y :: x :: B := by
    rw [List.set_append_right _ _ (Nat.le_refl _), Nat.sub_self, List.set_append_right _ _ (by omega), show A.length + 1 - A.length = 1 from by omega]
    rfl
  unfold swS at hne ⊢
  rw [gx, gy] at hne ⊢
  by_cases e : y < x
  · rw [if_pos e] at hne
    exact absurd rfl hne
  · rw [if_neg e] at hne ⊢
    rw [es] at hne ⊢
    have lt : x < y := by
      apply Classical.byContradiction
      intro z
      have : x = y := by omega
      subst this
      exact hne rfl
    have := inv_swap x y B A
    rw [if_pos lt, if_neg e] at this
    omega
theorem ord_app (s : Bool) (l : List Int) (rs qs : List Rw) : ordS s l (rs ++ qs) = ordS s (ordS s l rs) qs := by
  unfold ordS
  rw [List.foldl_append]
theorem nd_none : ∀ rs : List Rw, (∀ r ∈ rs, RwOk N r) → (∀ i, i < rs.length → ¬ sameO N (skipR rs i) rs) → rs.length = invI (ordS true (begS N) rs) + invI (ordS false (begS N) rs) := by
  refine rev_ind ?_ fun rs r ih => ?_
  · intro _ _
    show 0 = invI (begS N) + invI (begS N)
    rw [inv_beg]
  · intro hrs h
    have hrs' : ∀ q ∈ rs, RwOk N q := fun q hq => hrs q (by simp [hq])
    have ih := ih hrs' fun i hi z => h i (by simp; omega) (by
      have e : skipR (rs ++ [r]) i = skipR rs i ++ [r] := by
        unfold skipR
        rw [List.take_append_of_le_length (by omega), List.drop_append_of_le_length (by omega), List.append_assoc]
      rw [e]
      exact ⟨by rw [ord_app, ord_app, z.1], by rw [ord_app, ord_app, z.2]⟩)
    have hl := h rs.length (by simp)
    have el : skipR (rs ++ [r]) rs.length = rs := by
      unfold skipR
      rw [List.take_append_of_le_length (Nat.le_refl _), List.take_length, List.drop_of_length_le (by simp), List.append_nil]
    rw [el] at hl
    have hw := low_lt (hrs r (by simp))
    have ll : ∀ s, (ordS s (begS N) rs).length = N := fun s => by rw [ord_len, beg_len]
    rw [List.length_append, show [r].length = 1 from rfl]
    cases c : lftR r with
    | true =>
      have e1 : ordS true (begS N) (rs ++ [r]) = swS (ordS true (begS N) rs) (lowR r) := by rw [ord_snoc, c, if_pos (by rfl)]
      have e2 : ordS false (begS N) (rs ++ [r]) = ordS false (begS N) rs := by rw [ord_snoc, c, if_neg (by decide)]
      have up := sw_up (l := ordS true (begS N) rs) (c := lowR r) (by rw [ll]; exact hw) fun z => hl ⟨by rw [e1, z], by rw [e2]⟩
      rw [e1, e2, up]
      omega
    | false =>
      have e1 : ordS true (begS N) (rs ++ [r]) = ordS true (begS N) rs := by rw [ord_snoc, c, if_neg (by decide)]
      have e2 : ordS false (begS N) (rs ++ [r]) = swS (ordS false (begS N) rs) (lowR r) := by rw [ord_snoc, c, if_pos (by rfl)]
      have up := sw_up (l := ordS false (begS N) rs) (c := lowR r) (by rw [ll]; exact hw) fun z => hl ⟨by rw [e1], by rw [e2, z]⟩
      rw [e1, e2, up]
      omega
theorem nd_nil (hrs : ∀ r ∈ rs, RwOk N r) : ndL N rs = [] ↔ rs.length = invI (ordS true (begS N) rs) + invI (ordS false (begS N) rs) := by
  constructor
  · intro h
    refine nd_none rs hrs fun i hi z => ?_
    have : i ∈ ndL N rs := nd_mem.mpr ⟨hi, decide_eq_true z⟩
    rw [h] at this
    cases this
  · intro h
    apply List.eq_nil_iff_forall_not_mem.mpr
    intro i hi
    obtain ⟨h1, h2⟩ := nd_mem.mp hi
    obtain ⟨h3, h4⟩ : sameO N (skipR rs i) rs := of_decide_eq_true h2
    have fw := fewest (N := N) (rs := skipR rs i) fun r hr => hrs r (skip_mem hr)
    have := skip_len h1
    rw [h3, h4] at fw
    omega
/-- two alike rows, one behind the other -/
theorem twin_same (hrs : ∀ r ∈ rs, RwOk N r) (hi : i + 1 < rs.length) (e : rs[i]? = rs[i + 1]?) : sameO N (skipR rs i) rs ∧ sameO N (skipR rs (i + 1)) rs := by
  have h1 := List.getElem?_eq_getElem (l := rs) (i := i) (by omega)
  have h2 := List.getElem?_eq_getElem (l := rs) (i := i + 1) hi
  generalize rs[i] = r at h1
  generalize rs[i + 1] = q at h2
  rw [h1, h2] at e
  injection e with e
  subst e
  have hr := hrs r (List.mem_of_getElem? h1)
  have hw := low_lt hr
  have e0 : rs.take (i + 1) = rs.take i ++ [r] := by rw [List.take_add_one, h1]; rfl
  have e1 : rs.drop (i + 1) = r :: rs.drop (i + 2) := by
    rw [List.drop_eq_getElem_cons hi]
    congr 1
    have := List.getElem?_eq_getElem hi
    rw [h2] at this
    exact (Option.some.inj this).symm
  have e2 : skipR rs i = rs.take i ++ r :: rs.drop (i + 2) := by unfold skipR; rw [e1]
  have e3 : skipR rs (i + 1) = rs.take i ++ r :: rs.drop (i + 2) := by unfold skipR; rw [e0, List.append_assoc]; rfl
  have e4 : rs = rs.take i ++ r :: r :: rs.drop (i + 2) := by
    conv => lhs; rw [← List.take_append_drop (i + 1) rs, e0, e1, List.append_assoc]
    rfl
  have key : ∀ s, ordS s (begS N) (rs.take i ++ r :: rs.drop (i + 2)) = ordS s (begS N) rs := fun s => by
    conv => rhs; rw [e4]
    rw [ord_app, ord_app]
    have tw := sw_twice (l := ordS s (begS N) (rs.take i)) (c := lowR r) (by rw [ord_len, beg_len]; exact hw)
    unfold ordS at tw ⊢
    simp only [List.foldl_cons]
    by_cases c : (lftR r == s) = true
    · simp only [c, if_true]
      rw [tw]
    · simp only [c]
      rfl
  rw [e2, e3]
  exact ⟨⟨key true, key false⟩, ⟨key true, key false⟩⟩
end
end TK

set_option Elab.async false
set_option linter.all false
set_option maxRecDepth 100000
set_option maxHeartbeats 4000000
namespace TK
open PySem PySem.Spec
open PyProof.Rows hiding St
open L2
/-! # needless rows asked -/
section
variable {st S : Store} {n p q N i c t : Nat} {k h : Int} {x y l m : List Int} {rs qs : List Rw} {L M : List (List Int)} {r : Rw} {d : D} {o0 o2 o3 o4 o5 o6 : Option D}
noncomputable def nl0e : EF := (eCall m_check_loose (lCons (eVar 0) lNil))
noncomputable def nl0 : SF := (sDrop nl0e)
noncomputable def nl1e : EF := (eCall m_orders (lCons (eVar 0) lNil))
noncomputable def nl1 : SF := (sSet 1 nl1e)
noncomputable def nl2e : EF := (eQ tupG (compF [2] (iRng1F (lCons (eQ lenG (lRd (eFld ["Log"] "rows" (eVar 0)))) lNil)) (.name 2) (bB (e2 eqD (eCall m_orders (lCons (eCall m_without (lCons (eVar 0) (lCons (eVar 2) lNil))) lNil)) (eVar 1))) (eVar 2)))
noncomputable def nl2 : SF := (sRet nl2e)
theorem nl_cut : m_needless = runDef 3 (sSeq nl0 (sSeq nl1 nl2)) := m_needless_eq
noncomputable def nu0 : SF := (sIf (bNot (bTru (eIsi ["tuple"] (eVar 0)))) (sRet (eC (.bl false))) sNil)
noncomputable def nu1e : EF := (e1 negD (eC (.int 1)))
noncomputable def nu1 : SF := (sSet 2 nu1e)
noncomputable def nu2_0 : SF := (sIf (bOr (bNot (bTru (eIsi ["int"] (eVar 3)))) (bOr (bTru (eIsi ["bool"] (eVar 3))) (bOr (bB (e2 leD (eVar 3) (eVar 2))) (bB (e2 geD (eVar 3) (eVar 1)))))) (sRet (eC (.bl false))) sNil)
noncomputable def nu2_1e : EF := (eVar 3)
noncomputable def nu2_1 : SF := (sSet 2 nu2_1e)
noncomputable def nu2b : SF := (sSeq nu2_0 nu2_1)
noncomputable def nu2 : SF := (sFor (.name 3) (iSeqF (eVar 0)) nu2b)
noncomputable def nu3e : EF := (eC (.bl true))
noncomputable def nu3 : SF := (sRet nu3e)
theorem nu_cut : m__law_numbers = runDef 4 (sSeq nu0 (sSeq nu1 (sSeq nu2 nu3))) := m__law_numbers_eq
noncomputable def bd0l : LF := (lQ sortTG (lDrop (eCall m__law_finals (lCons (eVar 0) (lCons (eVar 1) lNil)))))
noncomputable def bd0 : SF := (sSet 2 (eLst bd0l))
noncomputable def bd1l : LF := (lLst lNil)
noncomputable def bd1 : SF := (sSet 3 (eLst bd1l))
noncomputable def bd2_0 : SF := (sIf (bB (e2 eqD (eLst (lQ sortTG (lDrop (eCall m__law_finals (lCons (eVar 0) (lCons (e2 addD (eSl (eVar 1) oNone (oSome (eVar 4))) (eSl (eVar 1) (oSome (e2 addD (eVar 4) (eC (.int 1)))) oNone)) lNil)))))) (eVar 2))) (sDrop (eM isLst appendG (eVar 3) (lCons (eVar 4) lNil))) sNil)
noncomputable def bd2b : SF := bd2_0
noncomputable def bd2 : SF := (sFor (.name 4) (iRng1F (lCons (eQ lenG (lRd (eVar 1))) lNil)) bd2b)
noncomputable def bd3e : EF := (eQ tupG (lRd (eVar 3)))
noncomputable def bd3 : SF := (sRet bd3e)
theorem bd_cut : m__law_by_doings = runDef 5 (sSeq bd0 (sSeq bd1 (sSeq bd2 bd3))) := m__law_by_doings_eq
noncomputable def ir0e : EF := (eMake "Log" m_Log__init (lCons (eVar 0) (lCons (eVar 1) lNil)))
noncomputable def ir0 : SF := (sSet 2 ir0e)
noncomputable def ir1e : EF := (eCall m_needless (lCons (eVar 2) lNil))
noncomputable def ir1 : SF := (sSet 3 ir1e)
noncomputable def ir2e : EF := (eCall m__law_orders (lCons (eVar 0) (lCons (eVar 1) lNil)))
noncomputable def ir2 : SF := (sSet 4 ir2e)
noncomputable def ir3l : LF := (lLst lNil)
noncomputable def ir3 : SF := (sSet 5 (eLst ir3l))
noncomputable def ir4_0 : SF := (sIf (bB (e2 eqD (eCall m__law_orders (lCons (eVar 0) (lCons (e2 addD (eSl (eVar 1) oNone (oSome (eVar 6))) (eSl (eVar 1) (oSome (e2 addD (eVar 6) (eC (.int 1)))) oNone)) lNil))) (eVar 4))) (sDrop (eM isLst appendG (eVar 5) (lCons (eVar 6) lNil))) sNil)
noncomputable def ir4b : SF := ir4_0
noncomputable def ir4 : SF := (sFor (.name 6) (iRng1F (lCons (eQ lenG (lRd (eVar 1))) lNil)) ir4b)
noncomputable def ir5 : SF := (sIf (bOr (bNot (bTru (eCall m__law_numbers (lCons (eVar 3) (lCons (eQ lenG (lRd (eVar 1))) lNil))))) (bB (e2 neD (eVar 3) (eQ tupG (lRd (eVar 5)))))) (sRet (eC (.bl false))) sNil)
noncomputable def ir6 : SF := (sIf (bB (e2 neD (e2 eqD (eVar 3) (eTup lNil)) (e2 eqD (eQ lenG (lRd (eVar 1))) (e2 addD (eCall m__law_turned (lCons (e2 getD (eVar 4) (eC (.int 0))) lNil)) (eCall m__law_turned (lCons (e2 getD (eVar 4) (eC (.int 1))) lNil)))))) (sRet (eC (.bl false))) sNil)
noncomputable def ir7_0 : SF := (sIf (bAnd (bB (e2 ltD (eVar 6) (eC (.int 3)))) (bB (e2 neD (eCall m_let_alike (lCons (eCall m_without (lCons (eVar 2) (lCons (eVar 6) lNil))) (lCons (eVar 2) lNil))) (e2 inD2 (eVar 6) (eVar 3))))) (sRet (eC (.bl false))) sNil)
noncomputable def ir7_1 : SF := (sIf (bAnd (bB (e2 gtD (eVar 6) (eC (.int 0)))) (bAnd (bB (e2 eqD (e2 getD (eVar 1) (eVar 6)) (e2 getD (eVar 1) (e2 subD (eVar 6) (eC (.int 1)))))) (bOr (bB (e2 ninD2 (eVar 6) (eVar 3))) (bB (e2 ninD2 (e2 subD (eVar 6) (eC (.int 1))) (eVar 3)))))) (sRet (eC (.bl false))) sNil)
noncomputable def ir7b : SF := (sSeq ir7_0 ir7_1)
noncomputable def ir7 : SF := (sFor (.name 6) (iRng1F (lCons (eQ lenG (lRd (eVar 1))) lNil)) ir7b)
noncomputable def ir8e : EF := (e2 eqD (eCall m_needless (lCons (eVar 2) lNil)) (eVar 3))
noncomputable def ir8 : SF := (sRet ir8e)
theorem ir_cut : m__law_is_right = runDef 7 (sSeq ir0 (sSeq ir1 (sSeq ir2 (sSeq ir3 (sSeq ir4 (sSeq ir5 (sSeq ir6 (sSeq ir7 ir8)))))))) := m__law_is_right_eq
theorem fin_seq {f g : SF} {e e' : AEnv} {s s' : Store} (h : f e s = .next e' s') : sSeq f g e s = g e' s' := by rw [sSeq_ap, h, sThen_next]
theorem keepN {X : Store} {q : Nat} {o : AO} (h : st[q]? = some o) : (st ++ X)[q]? = some o := by rw [List.getElem?_append_left (List.getElem?_eq_some_iff.mp h).1]; exact h
theorem call_fin {m : List D → Store → R D} {fl : LF} {env : AEnv} {st S S' : Store} {ds : List D} {d : D} (h1 : fl env st = .ok ds S) (h2 : gcH S (m ds S) = .ok d S') : eCall m fl env st = .ok d S' := by
  rw [eCall_ap, h1]
  exact h2
theorem cons_fin {fa : EF} {fl : LF} {env : AEnv} {st S S' : Store} {x : D} {xs : List D} (h1 : fa env st = .ok x S) (h2 : fl env S = .ok xs S') : lCons fa fl env st = .ok (x :: xs) S' := by
  rw [lCons_ap, h1]
  show (fl env S).bind _ = _
  rw [h2]
  rfl
theorem nil_fin {env : AEnv} {st : Store} : lNil env st = .ok [] st := rfl
theorem lst_fin {fl : LF} {env : AEnv} {st S : Store} {ds : List D} (h : fl env st = .ok ds S) : eLst fl env st = .ok (.ref S.length) (S ++ [.lst ds]) := by
  rw [eLst_ap, h]
  rfl
theorem var_fin {env : AEnv} {st : Store} {i : Nat} {x : D} (h : env[i]? = some (some x)) : eVar i env st = .ok x st := by
  rw [eVar_ap, h]
theorem tru_fin {fa : EF} {env : AEnv} {st S : Store} {b : Bool} (h : fa env st = .ok (.bl b) S) : bTru fa env st = .ok b S := by
  rw [bTru_ap, h]
  rfl
theorem bb_fin {fa : EF} {env : AEnv} {st S : Store} {b : Bool} (h : fa env st = .ok (.bl b) S) : bB fa env st = .ok b S := by
  rw [bB_ap, h]
  rfl
theorem not_fin {fa : BF} {env : AEnv} {st S : Store} {b : Bool} (h : fa env st = .ok b S) : bNot fa env st = .ok (!b) S := by
  rw [bNot_ap, h]
  rfl
theorem e2_fin {g : D → D → Store → R D} {fa fb : EF} {env : AEnv} {st S S' S2 : Store} {x y z : D} (h1 : fa env st = .ok x S) (h2 : fb env S = .ok y S') (h3 : g x y S' = .ok z S2) : e2 g fa fb env st = .ok z S2 := by
  rw [e2_ap, h1]
  show (fb env S).bind _ = _
  rw [h2]
  exact h3
theorem if_fin {fb : BF} {a b : SF} {env : AEnv} {st S : Store} {c : Bool} (h : fb env st = .ok c S) : sIf fb a b env st = if c = true then a env S else b env S := by
  rw [sIf_ap, h]
  cases c <;> rfl
theorem ret_fin {fa : EF} {env : AEnv} {st S : Store} {x : D} (h : fa env st = .ok x S) : sRet fa env st = .ret x S := by
  rw [sRet_ap, h]
  rfl
theorem in_tupI {xs : List Int} : inD2 (.int h) (tI xs) st = .ok (.bl (decide (h ∈ xs))) st := by
  have fl : (xs.map D.int).all flatD = true := by
    rw [List.all_eq_true]
    intro d hd
    obtain ⟨x, _, rfl⟩ := List.mem_map.mp hd
    rfl
  unfold tI
  rw [inD2_tup rfl fl]
  congr 2
  clear fl
  induction xs with
  | nil => rfl
  | cons x xs ih =>
    show (eqV (.int x) (.int h) || inV _ _) = _
    rw [ih]
    have e : eqV (.int x) (.int h) = decide (x = h) := by
      show (x == h) = _
      by_cases c : x = h
      · simp [c]
      · simp [c]
    rw [e]
    by_cases c : x = h
    · simp [c]
    · have c' : ¬ h = x := fun z => c z.symm
      simp [c, c']
theorem tupsOf_tI : ∀ L : List (List Int), tupsOf (L.map tI) = some L
  | [] => rfl
  | x :: L => by
    rw [List.map_cons]
    show (match intsOf (x.map D.int), tupsOf (L.map tI) with
      | some ns, some L => some (ns :: L)
      | _, _ => none) = _
    rw [intsOf_ints, tupsOf_tI L]
theorem sortTG_tI {L : List (List Int)} (hc : (∀ x ∈ L, x ≠ []) ∨ L.head? = some []) : sortTG (L.map tI) st = .ok ((sortL L).map tI) st := by
  unfold sortTG
  rw [tupsOf_tI]
  simp only
  rw [if_pos hc]
  rfl
theorem toP_intsK (ns : List Int) : ∀ k, toP st k (.tup (ns.map D.int)) = some (.tuple (pyI ns))
  | 0 => by
    show (toPws _ (ns.map D.int)).map PyData.tuple = _
    rw [toPws_ints]; rfl
  | k + 1 => by
    show (toPws _ (ns.map D.int)).map PyData.tuple = _
    rw [toPws_ints]; rfl
theorem mapM_tI {f : D → Option PyData} (h : ∀ x : List Int, f (.tup (x.map D.int)) = some (.tuple (pyI x))) : ∀ L : List (List Int), (L.map tI).mapM f = some (L.map fun x => PyData.tuple (pyI x))
  | [] => rfl
  | x :: xs => by
    have e : f (tI x) = some (.tuple (pyI x)) := h x
    rw [List.map_cons, List.mapM_cons, e, mapM_tI h xs]
    rfl
theorem canLay_tIs : ∀ L : List (List Int), PyData.canLayAll0 (L.map fun x => PyData.tuple (pyI x)) = true
  | [] => rfl
  | x :: L => by
    show (PyData.canLayAll0 (pyI x) && PyData.canLayAll0 (L.map fun x => PyData.tuple (pyI x))) = true
    rw [canLay_ints, canLay_tIs L]; rfl
theorem depthAll_tIs : ∀ L : List (List Int), PyData.depthAll (L.map fun x => PyData.tuple (pyI x)) ≤ 1
  | [] => Nat.zero_le _
  | x :: L => by
    show max (PyData.depthAll (pyI x) + 1) (PyData.depthAll (L.map fun x => PyData.tuple (pyI x))) ≤ 1
    rw [depthAll_ints]
    exact Nat.max_le.mpr ⟨Nat.le_refl _, depthAll_tIs L⟩
theorem shaped_tIs (L : List (List Int)) : SeqAt.shaped (.list (L.map fun x => PyData.tuple (pyI x))) = true := by
  unfold SeqAt.shaped
  have h1 : (PyData.list (L.map fun x => PyData.tuple (pyI x))).canLay0 = true := canLay_tIs L
  have h2 : (PyData.list (L.map fun x => PyData.tuple (pyI x))).depth ≤ 64 := by
    show PyData.depthAll (L.map fun x => PyData.tuple (pyI x)) + 1 ≤ 64
    have := depthAll_tIs L
    omega
  simp [h1, h2]
theorem eqv_tIs : ∀ L M : List (List Int), PyData.eqvAll (L.map fun x => PyData.tuple (pyI x)) (M.map fun x => PyData.tuple (pyI x)) = decide (L = M)
  | [], [] => rfl
  | [], y :: M => by simp [PyData.eqvAll]
  | x :: L, [] => by simp [PyData.eqvAll]
  | x :: L, y :: M => by
    show (PyData.eqvAll (pyI x) (pyI y) && PyData.eqvAll (L.map fun x => PyData.tuple (pyI x)) (M.map fun x => PyData.tuple (pyI x))) = _
    rw [eqv_ints, eqv_tIs L M]
    by_cases h1 : x = y <;> by_cases h2 : L = M <;> simp [h1, h2]
theorem toP_tIs {q : Nat} (h : st[q]? = some (.lst (L.map tI))) : toP st 50 (.ref q) = some (.list (L.map fun x => PyData.tuple (pyI x))) := by
  show (match seqOf (.ref q) st with
    | some ds => (ds.mapM (toP st 49)).map PyData.list
    | none => none) = _
  rw [seqOf_ref, h]
  simp only [mapM_tI (f := toP st 49) (fun x => toP_intsK x 49)]
  rfl
theorem eqD_tLs {a b : Nat} (ha : st[a]? = some (.lst (L.map tI))) (hb : st[b]? = some (.lst (M.map tI))) : eqD (.ref a) (.ref b) st = .ok (.bl (decide (L = M))) st := by
  unfold eqD eqP
  rw [toP_tIs ha, toP_tIs hb]
  simp only [shaped_tIs, and_self, if_true]
  show R.ok (D.bl (PyData.eqvAll _ _)) st = _
  rw [eqv_tIs]
theorem eqD_rwR (r q : Rw) : eqD (rwD r) (rwD q) st = .ok (.bl (decide (r.x = q.x ∧ r.y = q.y ∧ r.f = q.f))) st := by
  have tp : ∀ r : Rw, toP st 50 (rwD r) = some (.tuple [.int r.x, .int r.y, .bool r.f]) := fun r => by
    show toPw _ (.tup [.int (r.x : Int), .int (r.y : Int), .bl r.f]) = _
    simp [toPw, toPws]
  have sh : ∀ r : Rw, SeqAt.shaped (PyData.tuple [.int (r.x : Int), .int (r.y : Int), .bool r.f]) = true := fun r => rfl
  unfold eqD eqP
  rw [tp, tp]
  simp only [sh, and_self, if_true]
  show R.ok (D.bl (PyData.eqvAll [.int (r.x : Int), .int (r.y : Int), .bool r.f] [.int (q.x : Int), .int (q.y : Int), .bool q.f])) st = _
  congr 2
  show ((((r.x : Int) == (q.x : Int)) && (((r.y : Int) == (q.y : Int)) && ((r.f == q.f) && true)))) = _
  rw [Bool.eq_iff_iff]
  simp only [Bool.and_eq_true, beq_iff_eq, Bool.and_true, decide_eq_true_eq]
  constructor
  · rintro ⟨h1, h2, h3⟩; exact ⟨by omega, by omega, h3⟩
  · rintro ⟨h1, h2, h3⟩; exact ⟨by omega, by omega, h3⟩
def ndI (N : Nat) (rs : List Rw) : List Int := (ndL N rs).map fun (i : Nat) => (i : Int)
theorem ndI_mem {i : Nat} : (i : Int) ∈ ndI N rs ↔ i < rs.length ∧ needB N rs i = true := by
  rw [← nd_mem]
  unfold ndI
  rw [List.mem_map]
  constructor
  · rintro ⟨j, hj, h⟩
    obtain rfl : j = i := by omega
    exact hj
  · intro h
    exact ⟨i, h, rfl⟩
theorem ndl_len : (ndL N rs).length ≤ rs.length := by
  unfold ndL
  exact Nat.le_trans (List.length_filter_le _ _) (by simp)
/-- the part of the list up to a row -/
def ndP (N : Nat) (rs : List Rw) (i : Nat) : List Int := ((List.range i).filter (needB N rs)).map fun (i : Nat) => (i : Int)
theorem ndP_all : ndP N rs rs.length = ndI N rs := rfl
theorem ndP_suc (i : Nat) : ndP N rs (i + 1) = ndP N rs i ++ if needB N rs i = true then [(i : Int)] else [] := by
  unfold ndP
  rw [List.range_succ, List.filter_append, List.map_append]
  congr 1
  by_cases c : needB N rs i = true
  · rw [if_pos c]; simp [c]
  · rw [if_neg c]; simp [c]
theorem ndP_len (i : Nat) : (ndP N rs i).length ≤ i := by
  unfold ndP
  rw [List.length_map]
  exact Nat.le_trans (List.length_filter_le _ _) (by simp)
theorem needless_ok (h : st[p]? = some (logO N rs)) (hN1 : 1 ≤ N) (hN : N ≤ 12) (hM : rs.length ≤ 1000) (hrs : ∀ r ∈ rs, RwOk N r) (hf : ∀ r ∈ rs, r.f = false) : gcH st (m_needless [.ref p] st) = .ok (tI (ndI N rs)) st := by
  have zM : rs.length ≤ sizeLine := szl (by omega)
  have op := orders_pr h hN hrs
  have run : ∃ X, m_needless [.ref p] st = .ok (tI (ndI N rs)) (st ++ X) := by
    rw [nl_cut]
    simp only [runDef_ap]
    have ee : (List.map some [D.ref p] ++ List.replicate (3 - [D.ref p].length) none : AEnv) = [some (.ref p), none, none] := rfl
    have k0 : nl0 [some (.ref p), none, none] st = .next [some (.ref p), none, none] st := by
      unfold nl0 nl0e
      simp [check_loose_ok h hf]
    have k1 : nl1 [some (.ref p), none, none] st = .next [some (.ref p), some (prW (ordS true (begS N) rs) (ordS false (begS N) rs)), none] st := by
      unfold nl1 nl1e
      simp [op]
    have cc : ∃ X, compF [2] (iRng1F (lCons (eQ lenG (lRd (eFld ["Log"] "rows" (eVar 0)))) lNil)) (.name 2) (bB (e2 eqD (eCall m_orders (lCons (eCall m_without (lCons (eVar 0) (lCons (eVar 2) lNil))) lNil)) (eVar 1))) (eVar 2) [some (.ref p), some (prW (ordS true (begS N) rs) (ordS false (begS N) rs)), none] st = .ok ((ndI N rs).map D.int) (st ++ X) := by
      have it : iRng1F (lCons (eQ lenG (lRd (eFld ["Log"] "rows" (eVar 0)))) lNil) [some (.ref p), some (prW (ordS true (begS N) rs) (ordS false (begS N) rs)), none] st = .ok (rangeD 0 rs.length, []) st := by
        simp [log_at h, lkR, rngR_nat (n := rs.length) (show rs.length ≤ 1000000 by omega)]
      rw [compF_ap, it]
      simp only [R.bind_ok]
      rw [okIf_pos ⟨by simp, by simpa using zM⟩]
      generalize hr : compL _ _ _ _ _ _ _ = r
      obtain ⟨ys, s, rfl, X, rfl, rfl⟩ := compL_ok hr (fun i acc s => ∃ X, acc = (ndP N rs i).map D.int ∧ s = st ++ X) ⟨[], rfl, by simp⟩ fun i d acc s hI hd => by
        obtain ⟨X, rfl, rfl⟩ := hI
        obtain ⟨rfl, hi'⟩ := rangeD_get' hd
        have wo := without_ok (st := st ++ X) (i := i) (kpS h) hi' hN1 hN (by omega)
        have oo := orders_pr (st := st ++ X ++ [logO N (skipR rs i)]) (p := (st ++ X).length) List.getElem?_concat_length hN (fun r hr => hrs r (skip_mem hr))
        have eq := eqD_pr (st := st ++ X ++ [logO N (skipR rs i)]) (a := ordS true (begS N) (skipR rs i)) (b := ordS false (begS N) (skipR rs i)) (c := ordS true (begS N) rs) (d := ordS false (begS N) rs)
        have eb : decide (ordS true (begS N) (skipR rs i) = ordS true (begS N) rs ∧ ordS false (begS N) (skipR rs i) = ordS false (begS N) rs) = needB N rs i := by
          unfold needB sameO
          rfl
        rw [eb] at eq
        have cond : bB (e2 eqD (eCall m_orders (lCons (eCall m_without (lCons (eVar 0) (lCons (eVar 2) lNil))) lNil)) (eVar 1)) [some (.ref p), some (prW (ordS true (begS N) rs) (ordS false (begS N) rs)), some (.int (i : Int))] (st ++ X) = .ok (needB N rs i) (st ++ X ++ [logO N (skipR rs i)]) :=
          bb_fin (e2_fin (call_fin (cons_fin (call_fin (cons_fin (var_fin (x := .ref p) rfl) (cons_fin (var_fin (x := .int (i : Int)) rfl) nil_fin)) wo) nil_fin) oo) (var_fin (x := prW (ordS true (begS N) rs) (ordS false (begS N) rs)) rfl) eq)
        refine ⟨_, asgT_name _ _ _, ?_⟩
        cases c : needB N rs i with
        | true =>
          rw [c] at cond
          refine .inl ⟨.int (i : Int), _, _, cond, var_fin (x := .int (i : Int)) rfl, by simp, X ++ [logO N (skipR rs i)], ?_, by rw [List.append_assoc]⟩
          rw [ndP_suc, c, if_pos rfl, List.map_append]
          rfl
        | false =>
          rw [c] at cond
          refine .inr ⟨_, cond, by simp, X ++ [logO N (skipR rs i)], ?_, by rw [List.append_assoc]⟩
          rw [ndP_suc, c, if_neg (by decide), List.append_nil]
      rw [rangeD_lenS, ndP_all]
      exact ⟨X, rfl⟩
    obtain ⟨X, cc⟩ := cc
    refine ⟨X, ?_⟩
    rw [ee, fin_seq k0, fin_seq k1]
    unfold nl2 nl2e
    rw [sRet_ap, eQ_ap, cc]
    rfl
  obtain ⟨X, run⟩ := run
  rw [run]
  exact gcR_ok _ (closeds_ints _ _)
/-! ## the law's slices -/
theorem skip_sl {env : AEnv} {a b : Nat} (h1 : env[a]? = some (some (.tup (rs.map rwD)))) (h2 : env[b]? = some (some (.int (i : Int)))) (hM : rs.length ≤ 1000) : e2 addD (eSl (eVar a) oNone (oSome (eVar b))) (eSl (eVar a) (oSome (e2 addD (eVar b) (eC (.int 1)))) oNone) env st = .ok (.tup ((skipR rs i).map rwD)) st := by
  have ch := cut_hi (rs.map rwD) i
  have cl := cut_lo (rs.map rwD) (i + 1)
  have e2' : ((i + 1 : Nat) : Int) = (i : Int) + 1 := by omega
  rw [e2'] at cl
  have hz : ((rs.map rwD).take i ++ (rs.map rwD).drop (i + 1)).length ≤ sizeLine := szl (by simp; omega)
  have em : (skipR rs i).map rwD = (rs.map rwD).take i ++ (rs.map rwD).drop (i + 1) := by unfold skipR; rw [List.map_append, List.map_take, List.map_drop]
  have s1 : eSl (eVar a) oNone (oSome (eVar b)) env st = .ok (.tup ((rs.map rwD).take i)) st := by
    rw [eSl_ap, var_fin h1]
    simp only [R.bind_ok]
    rw [show oNone env st = .ok none st from rfl]
    simp only [R.bind_ok]
    rw [oSome_ap, var_fin h2]
    simp only [R.bind_ok]
    rw [ch]
  have s2 : eSl (eVar a) (oSome (e2 addD (eVar b) (eC (.int 1)))) oNone env st = .ok (.tup ((rs.map rwD).drop (i + 1))) st := by
    rw [eSl_ap, var_fin h1]
    simp only [R.bind_ok]
    rw [oSome_ap, e2_fin (var_fin h2) (show eC (.int 1) env st = .ok (.int 1) st from rfl) (addD_int _ _ _)]
    simp only [R.bind_ok]
    rw [show oNone env st = .ok none st from rfl]
    simp only [R.bind_ok]
    rw [cl]
  rw [em]
  refine e2_fin s1 s2 ?_
  have := addD_tup ((rs.map rwD).take i) ((rs.map rwD).drop (i + 1)) st
  rw [this, okIf_pos (by rw [List.length_append] at hz; exact hz)]
/-! ## by doings -/
theorem need_fin (hrs : ∀ r ∈ rs, RwOk N r) (hf : ∀ r ∈ rs, r.f = false) : decide (sortL (finL N (skipR rs i)) = sortL (finL N rs)) = needB N rs i := by
  unfold needB
  rw [Bool.eq_iff_iff, decide_eq_true_iff, decide_eq_true_iff, sortL_same finL_nodup finL_nodup]
  exact fin_same (fun r hr => hrs r (skip_mem hr)) hrs (fun r hr => hf r (skip_mem hr)) hf
theorem sort_fin {fr : LF} {env : AEnv} (hfr : fr env st = .ok [.int (N : Int), .tup (rs.map rwD)] st) (hN1 : 1 ≤ N) (hN : N ≤ 12) (hrs : ∀ r ∈ rs, RwOk N r) (hM : rs.length ≤ 15) : lQ sortTG (lDrop (eCall m__law_finals fr)) env st = .ok ((sortL (finL N rs)).map tI) st := by
  have fd := finals_drop hfr hN hrs hM
  rw [lQ_ap, fd]
  exact sortTG_tI (.inl fun x hx e => by
    have := (fin_row hrs hx).1
    rw [e] at this
    simp at this
    omega)
theorem by_doings_ok (hN1 : 1 ≤ N) (hN : N ≤ 12) (hM : rs.length ≤ 15) (hrs : ∀ r ∈ rs, RwOk N r) (hf : ∀ r ∈ rs, r.f = false) : gcH st (m__law_by_doings [.int (N : Int), .tup (rs.map rwD)] st) = .ok (tI (ndI N rs)) st := by
  have ee : (List.map some [D.int (N : Int), .tup (rs.map rwD)] ++ List.replicate (5 - [D.int (N : Int), .tup (rs.map rwD)].length) none : AEnv) = [some (.int (N : Int)), some (.tup (rs.map rwD)), none, none, none] := rfl
  have run : ∃ X, m__law_by_doings [.int (N : Int), .tup (rs.map rwD)] st = .ok (tI (ndI N rs)) (st ++ X) := by
    rw [bd_cut]
    simp only [runDef_ap]
    have k0 : bd0 [some (.int (N : Int)), some (.tup (rs.map rwD)), none, none, none] st = .next [some (.int (N : Int)), some (.tup (rs.map rwD)), some (.ref st.length), none, none] (st ++ [.lst ((sortL (finL N rs)).map tI)]) := by
      unfold bd0 bd0l
      rw [sSet_ap, lst_fin (sort_fin (rs := rs) (cons_fin (var_fin (x := .int (N : Int)) rfl) (cons_fin (var_fin (x := .tup (rs.map rwD)) rfl) nil_fin)) hN1 hN hrs hM)]
      rfl
    have k1 : bd1 [some (.int (N : Int)), some (.tup (rs.map rwD)), some (.ref st.length), none, none] (st ++ [.lst ((sortL (finL N rs)).map tI)]) = .next [some (.int (N : Int)), some (.tup (rs.map rwD)), some (.ref st.length), some (.ref (st.length + 1)), none] (st ++ [.lst ((sortL (finL N rs)).map tI)] ++ [.lst []]) := by
      unfold bd1 bd1l
      rw [sSet_ap, lst_fin (ds := []) (by
        rw [lLst_ap, nil_fin]
        simp only [R.bind_ok, List.length_nil]
        rw [okIf_pos (Nat.zero_le _)])]
      simp
    have it : iRng1F (lCons (eQ lenG (lRd (eVar 1))) lNil) [some (.int (N : Int)), some (.tup (rs.map rwD)), some (.ref st.length), some (.ref (st.length + 1)), none] (st ++ [.lst ((sortL (finL N rs)).map tI)] ++ [.lst []]) = .ok (rangeD 0 rs.length, []) (st ++ [.lst ((sortL (finL N rs)).map tI)] ++ [.lst []]) := by
      have rg : rngR1 (rs.length : Int) (st ++ [.lst ((sortL (finL N rs)).map tI)] ++ [.lst []]) = .ok (rangeD 0 rs.length, []) (st ++ [.lst ((sortL (finL N rs)).map tI)] ++ [.lst []]) := rngR_nat (by omega)
      rw [iRng1F_ap, cons_fin (x := .int (rs.length : Int)) (by
        rw [eQ_ap, lRd_ap, var_fin (x := .tup (rs.map rwD)) rfl]
        show lenG (rs.map rwD) _ = _
        rw [lenG_eq, List.length_map]) nil_fin]
      exact rg
    have k2 : ∃ q4 X, bd2 [some (.int (N : Int)), some (.tup (rs.map rwD)), some (.ref st.length), some (.ref (st.length + 1)), none] (st ++ [.lst ((sortL (finL N rs)).map tI)] ++ [.lst []]) = .next [some (.int (N : Int)), some (.tup (rs.map rwD)), some (.ref st.length), some (.ref (st.length + 1)), q4] (st ++ [.lst ((sortL (finL N rs)).map tI)] ++ (.lst ((ndI N rs).map D.int) :: X)) := by
      unfold bd2
      rw [sFor_ap, it]
      simp only [sOf_ok]
      rw [if_pos (by simp)]
      generalize hr1 : loopF _ _ _ _ _ _ = r1
      obtain ⟨ev, s', rfl, q4, X, rfl, rfl⟩ := loopF_next hr1 (fun i env s' => ∃ (q4 : Option D) (X : Store), env = [some (.int (N : Int)), some (.tup (rs.map rwD)), some (.ref st.length), some (.ref (st.length + 1)), q4] ∧ s' = st ++ [.lst ((sortL (finL N rs)).map tI)] ++ (.lst ((ndP N rs i).map D.int) :: X)) ⟨none, [], rfl, rfl⟩ fun i dd env s' hI hdd => by
        obtain ⟨q4, X, rfl, rfl⟩ := hI
        obtain ⟨rfl, hi⟩ := rangeD_get' hdd
        generalize hB : st ++ [AO.lst ((sortL (finL N rs)).map tI)] = B
        have hBl : B.length = st.length + 1 := by rw [← hB]; simp
        have hB0 : B[st.length]? = some (.lst ((sortL (finL N rs)).map tI)) := by rw [← hB]; exact List.getElem?_concat_length
        have sl := skip_sl (rs := rs) (i := i) (st := B ++ (.lst ((ndP N rs i).map D.int) :: X)) (env := [some (.int (N : Int)), some (.tup (rs.map rwD)), some (.ref st.length), some (.ref (st.length + 1)), some (.int (i : Int))]) (a := 1) (b := 4) rfl rfl (by omega)
        have sf := sort_fin (rs := skipR rs i) (env := [some (.int (N : Int)), some (.tup (rs.map rwD)), some (.ref st.length), some (.ref (st.length + 1)), some (.int (i : Int))]) (cons_fin (var_fin (x := .int (N : Int)) (i := 0) rfl) (cons_fin sl nil_fin)) hN1 hN (fun r hr => hrs r (skip_mem hr)) (by have := skip_len hi; omega)
        have le := lst_fin sf
        have eq := eqD_tLs (st := B ++ (.lst ((ndP N rs i).map D.int) :: X) ++ [.lst ((sortL (finL N (skipR rs i))).map tI)]) (a := (B ++ (AO.lst ((ndP N rs i).map D.int) :: X)).length) (b := st.length) (L := sortL (finL N (skipR rs i))) (M := sortL (finL N rs)) List.getElem?_concat_length (keepN (keepN hB0))
        rw [need_fin hrs hf] at eq
        have cond := bb_fin (e2_fin le (var_fin (x := .ref st.length) (i := 2) rfl) eq)
        have hκ : (B ++ (AO.lst ((ndP N rs i).map D.int) :: X) ++ [.lst ((sortL (finL N (skipR rs i))).map tI)])[st.length + 1]? = some (.lst ((ndP N rs i).map D.int)) := by
          rw [List.append_assoc, ← hBl, List.getElem?_append_right (Nat.le_refl _)]
          simp
        refine ⟨_, asgT_name _ _ _, ?_⟩
        cases c : needB N rs i with
        | true =>
          rw [c] at cond
          have zr : ((ndP N rs i).map D.int).length < sizeLine := by
            rw [List.length_map]
            have := ndP_len (N := N) (rs := rs) i
            exact szl (n := (ndP N rs i).length + 1) (by omega)
          have ap := appendG_ref (d := .int (i : Int)) hκ zr
          have il : isLst (.ref (st.length + 1)) (B ++ (AO.lst ((ndP N rs i).map D.int) :: X) ++ [.lst ((sortL (finL N (skipR rs i))).map tI)]) = true := by simp only [isLst, hκ]
          refine ⟨[some (.int (N : Int)), some (.tup (rs.map rwD)), some (.ref st.length), some (.ref (st.length + 1)), some (.int (i : Int))], B ++ (.lst ((ndP N rs (i + 1)).map D.int) :: (X ++ [.lst ((sortL (finL N (skipR rs i))).map tI)])), .inl ?_, by simp, some (.int (i : Int)), X ++ [.lst ((sortL (finL N (skipR rs i))).map tI)], rfl, rfl⟩
          show bd2b [some (.int (N : Int)), some (.tup (rs.map rwD)), some (.ref st.length), some (.ref (st.length + 1)), some (.int (i : Int))] _ = _
          unfold bd2b bd2_0
          rw [if_fin cond, if_pos rfl, sDrop_ap, eM_ap, var_fin (x := .ref (st.length + 1)) rfl]
          simp only [R.bind_ok]
          rw [il, if_pos rfl, cons_fin (var_fin (x := .int (i : Int)) rfl) nil_fin]
          simp only [R.bind_ok]
          rw [ap]
          show RS.next _ _ = _
          congr 1
          rw [ndP_suc, c, if_pos rfl, List.map_append, List.append_assoc, ← hBl, List.set_append_right _ _ (Nat.le_refl _)]
          simp
        | false =>
          rw [c] at cond
          refine ⟨[some (.int (N : Int)), some (.tup (rs.map rwD)), some (.ref st.length), some (.ref (st.length + 1)), some (.int (i : Int))], B ++ (.lst ((ndP N rs (i + 1)).map D.int) :: (X ++ [.lst ((sortL (finL N (skipR rs i))).map tI)])), .inl ?_, by simp, some (.int (i : Int)), X ++ [.lst ((sortL (finL N (skipR rs i))).map tI)], rfl, rfl⟩
          show bd2b [some (.int (N : Int)), some (.tup (rs.map rwD)), some (.ref st.length), some (.ref (st.length + 1)), some (.int (i : Int))] _ = _
          unfold bd2b bd2_0
          rw [if_fin cond, ndP_suc, c, List.append_assoc]
          simp [sNil]
      rw [rangeD_lenS, ndP_all]
      exact ⟨q4, X, rfl⟩
    obtain ⟨q4, X, k2⟩ := k2
    refine ⟨[.lst ((sortL (finL N rs)).map tI)] ++ (.lst ((ndI N rs).map D.int) :: X), ?_⟩
    rw [ee, fin_seq k0, fin_seq k1, fin_seq k2]
    unfold bd3 bd3e
    have hq : (st ++ [AO.lst ((sortL (finL N rs)).map tI)] ++ (.lst ((ndI N rs).map D.int) :: X))[st.length + 1]? = some (.lst ((ndI N rs).map D.int)) := by
      rw [List.getElem?_append_right (by simp)]
      simp
    rw [ret_fin (x := tI (ndI N rs)) (by
      rw [eQ_ap, lRd_ap, var_fin (x := .ref (st.length + 1)) rfl]
      simp only [R.bind_ok]
      rw [seqOf_ref, hq]
      exact tupG_eq _ _), List.append_assoc]
  obtain ⟨X, run⟩ := run
  rw [run]
  exact gcR_ok _ (closeds_ints _ _)
end
end TK

set_option Elab.async false
set_option linter.all false
set_option maxRecDepth 100000
set_option maxHeartbeats 4000000
namespace TK
open PySem PySem.Spec
open PyProof.Rows hiding St
open L2
/-! # the law -/
section
variable {st S s1 s2 : Store} {n p q N i c t M : Nat} {k h : Int} {x y l m : List Int} {rs qs : List Rw} {r : Rw} {d : D} {o0 o2 o3 o4 o5 : Option D}
noncomputable def la0e : EF := (eCall m__law_hand (lCons (eVar 0) lNil))
noncomputable def la0 : SF := (sSet 1 la0e)
noncomputable def la1_0e : EF := (e2 getD (eLst (lLst (lCons (e2 addD (eC (.int 1)) (eCall m__law_draw (lCons (eVar 1) (lCons (eC (.int 4)) lNil)))) (lCons (eC (.int 3)) (lCons (eC (.int 4)) lNil))))) (eVar 2))
noncomputable def la1_0 : SF := (sSet 3 la1_0e)
noncomputable def la1_1e : EF := (eCall m__law_rows (lCons (eVar 1) (lCons (eVar 3) (lCons (eC (.int 7)) (lCons (eC (.int 0)) lNil)))))
noncomputable def la1_1 : SF := (sSet 4 la1_1e)
noncomputable def la1_2 : SF := (sIf (bOr (bNot (bTru (eCall m__law_is_right (lCons (eVar 3) (lCons (eVar 4) lNil))))) (bB (e2 neD (eCall m_needless (lCons (eMake "Log" m_Log__init (lCons (eVar 3) (lCons (eVar 4) lNil))) lNil)) (eCall m__law_by_doings (lCons (eVar 3) (lCons (eVar 4) lNil)))))) (sRet (eC (.bl false))) sNil)
noncomputable def la1_3t0e : EF := (eCall m__law_draw (lCons (eVar 1) (lCons (eQ lenG (lRd (eVar 4))) lNil)))
noncomputable def la1_3t0 : SF := (sSet 5 la1_3t0e)
noncomputable def la1_3t1 : SF := (sIf (bNot (bTru (eCall m__law_is_right (lCons (eVar 3) (lCons (e2 addD (e2 addD (eSl (eVar 4) oNone (oSome (eVar 5))) (eTup (lCons (e2 getD (eVar 4) (eVar 5)) lNil))) (eSl (eVar 4) (oSome (eVar 5)) oNone)) lNil))))) (sRet (eC (.bl false))) sNil)
noncomputable def la1_3tB : SF := (sSeq la1_3t0 la1_3t1)
noncomputable def la1_3fB : SF := sNil
noncomputable def la1_3 : SF := (sIf (bB (e2 gtD (eQ lenG (lRd (eVar 4))) (eC (.int 0)))) la1_3tB la1_3fB)
noncomputable def la1b : SF := (sSeq la1_0 (sSeq la1_1 (sSeq la1_2 la1_3)))
noncomputable def la1 : SF := (sFor (.name 2) (iRng1F (lCons (eC (.int 3)) lNil)) la1b)
noncomputable def la2e : EF := (e2 getD (eLst (lLst (lCons (e2 addD (eC (.int 5)) (eCall m__law_draw (lCons (eVar 1) (lCons (eC (.int 4)) lNil)))) (lCons (eC (.int 12)) lNil)))) (eB intG (lCons (e2 eqD (eCall m__law_draw (lCons (eVar 1) (lCons (eC (.int 6)) lNil))) (eC (.int 0))) lNil)))
noncomputable def la2 : SF := (sSet 3 la2e)
noncomputable def la3e : EF := (eCall m__law_is_right (lCons (eVar 3) (lCons (eCall m__law_rows (lCons (eVar 1) (lCons (eVar 3) (lCons (e2 getD (eLst (lLst (lCons (eC (.int 16)) (lCons (eC (.int 30)) lNil)))) (eB intG (lCons (e2 eqD (eVar 3) (eC (.int 12))) lNil))) (lCons (eC (.int 0)) lNil))))) lNil)))
noncomputable def la3 : SF := (sRet la3e)
theorem la_cut : m_law = runDef 6 (sSeq la0 (sSeq la1 (sSeq la2 la3))) := m_law_eq
theorem prW_closed (j : Nat) (l m : List Int) : closed j (prW l m) = true := by
  show (closed j (tD l) && (closed j (tD m) && true)) = true
  rw [show closed j (tD l) = true from closeds_ints _ _, show closed j (tD m) = true from closeds_ints _ _]
  rfl
/-- the numbers of needless rows are numbers -/
theorem numbers_ok (hM : rs.length ≤ 1000) : gcH st (m__law_numbers [tI (ndI N rs), .int (rs.length : Int)] st) = .ok (.bl true) st := by
  have ee : (List.map some [tI (ndI N rs), D.int (rs.length : Int)] ++ List.replicate (4 - [tI (ndI N rs), D.int (rs.length : Int)].length) none : AEnv) = [some (tI (ndI N rs)), some (.int (rs.length : Int)), none, none] := rfl
  have hl := ndl_len (N := N) (rs := rs)
  have asc : (ndL N rs).Pairwise (· < ·) := List.pairwise_lt_range.filter _
  have k0 : nu0 [some (tI (ndI N rs)), some (.int (rs.length : Int)), none, none] st = .next [some (tI (ndI N rs)), some (.int (rs.length : Int)), none, none] st := by
    unfold nu0 tI
    generalize (ndI N rs).map D.int = Q
    simp
  have k1 : nu1 [some (tI (ndI N rs)), some (.int (rs.length : Int)), none, none] st = .next [some (tI (ndI N rs)), some (.int (rs.length : Int)), some (.int (-1)), none] st := by
    unfold nu1 nu1e tI
    generalize (ndI N rs).map D.int = Q
    simp
  have k2 : ∃ q2 q3, nu2 [some (tI (ndI N rs)), some (.int (rs.length : Int)), some (.int (-1)), none] st = .next [some (tI (ndI N rs)), some (.int (rs.length : Int)), q2, q3] st := by
    have it : iSeqF (eVar 0) [some (tI (ndI N rs)), some (.int (rs.length : Int)), some (.int (-1)), none] st = .ok ((ndI N rs).map D.int, []) st := by
      unfold tI
      generalize (ndI N rs).map D.int = Q
      simp
    unfold nu2
    rw [sFor_ap, it]
    simp only [sOf_ok]
    rw [if_pos (by simp)]
    generalize hr1 : loopF _ _ _ _ _ _ = r1
    obtain ⟨ev, s', rfl, v, q3, rfl, rfl, _⟩ := loopF_next hr1 (fun i env s' => ∃ (v : Int) (q3 : Option D), env = [some (tI (ndI N rs)), some (.int (rs.length : Int)), some (.int v), q3] ∧ s' = st ∧ ∀ j a : Nat, (ndL N rs)[j]? = some a → i ≤ j → v < a) ⟨-1, none, rfl, rfl, fun j a _ _ => by omega⟩ fun i dd env s' hI hdd => by
      obtain ⟨v, q3, rfl, rfl, hv⟩ := hI
      have hdd : ((ndL N rs).map fun (i : Nat) => D.int (i : Int))[i]? = some dd := by
        unfold ndI at hdd
        rw [List.map_map] at hdd
        exact hdd
      rw [List.getElem?_map] at hdd
      cases ha : (ndL N rs)[i]? with
      | none => rw [ha] at hdd; cases hdd
      | some a =>
        rw [ha] at hdd
        cases hdd
        have h1 := hv i a ha (Nat.le_refl _)
        have h2 := (nd_mem.mp (List.mem_of_getElem? ha)).1
        have c1 : ¬ ((a : Int) ≤ v) := by omega
        have c2 : ¬ ((a : Int) ≥ (rs.length : Int)) := by omega
        refine ⟨_, asgT_name _ _ _, [some (tI (ndI N rs)), some (.int (rs.length : Int)), some (.int (a : Int)), some (.int (a : Int))], s', .inl ?_, by simp, (a : Int), some (.int (a : Int)), rfl, rfl, fun j b hb hj => ?_⟩
        · show nu2b [some (tI (ndI N rs)), some (.int (rs.length : Int)), some (.int v), some (.int (a : Int))] s' = _
          unfold nu2b nu2_0 nu2_1 nu2_1e tI
          generalize (ndI N rs).map D.int = Q
          have c3 : ¬ ((rs.length : Int) ≤ (a : Int)) := by omega
          simp [c1, c2, c3, h1, h2]
        · obtain ⟨hj1, e1⟩ := List.getElem?_eq_some_iff.mp hb
          obtain ⟨hi1, e2⟩ := List.getElem?_eq_some_iff.mp ha
          have := List.pairwise_iff_getElem.mp asc i j hi1 hj1 (by omega)
          rw [e1, e2] at this
          omega
    exact ⟨_, q3, rfl⟩
  obtain ⟨q2, q3, k2⟩ := k2
  have run : m__law_numbers [tI (ndI N rs), .int (rs.length : Int)] st = .ok (.bl true) st := by
    rw [nu_cut]
    simp only [runDef_ap]
    rw [ee, fin_seq k0, fin_seq k1, fin_seq k2]
    rfl
  rw [run]
  exact gcR_bl _
theorem lt_is (i j : Int) : ltD (.int i) (.int j) st = .ok (.bl (decide (i < j))) st := rfl
theorem gt_is (i j : Int) : gtD (.int i) (.int j) st = .ok (.bl (decide (j < i))) st := rfl
theorem sub_is (i j : Int) : subD (.int i) (.int j) st = .ok (.int (i - j)) st := rfl
theorem nin_of_in {a b : D} {v : Bool} (h : inD2 a b st = .ok (.bl v) st) : ninD2 a b st = .ok (.bl (!v)) st := by
  unfold inD2 at h
  unfold ninD2
  cases c : inT a b with
  | some w =>
    rw [c] at h
    have h : R.ok (D.bl w) st = R.ok (D.bl v) st := h
    injection h with h _
    injection h with h
    rw [h]
  | none =>
    rw [c] at h
    have h : inD a b st = .ok (.bl v) st := h
    show ninD a b st = _
    unfold inD at h
    unfold ninD
    cases e : inP a b st with
    | some w =>
      rw [e] at h
      have h : R.ok (D.bl w) st = R.ok (D.bl v) st := h
      injection h with h _
      injection h with h
      rw [h]
    | none =>
      rw [e] at h
      cases h
theorem let_alike_any (h : st[p]? = some (logO N rs)) (g : st[q]? = some (logO N qs)) (hN : N ≤ 12) (hrs : ∀ r ∈ rs, RwOk N r) (hqs : ∀ r ∈ qs, RwOk N r) (hf : ∀ r ∈ rs, r.f = false) (hg : ∀ r ∈ qs, r.f = false) : gcH st (m_let_alike [.ref p, .ref q] st) = .ok (.bl (decide (sameO N rs qs))) st := let_alike_ok h g hN hrs hqs hf hg
theorem right_ok (hN1 : 1 ≤ N) (hN : N ≤ 12) (hM : rs.length ≤ 60) (hrs : ∀ r ∈ rs, RwOk N r) (hf : ∀ r ∈ rs, r.f = false) : gcH st (m__law_is_right [.int (N : Int), .tup (rs.map rwD)] st) = .ok (.bl true) st := by
  have ee : (List.map some [D.int (N : Int), .tup (rs.map rwD)] ++ List.replicate (7 - [D.int (N : Int), .tup (rs.map rwD)].length) none : AEnv) = [some (.int (N : Int)), some (.tup (rs.map rwD)), none, none, none, none, none] := rfl
  have hT : ∀ {s : Bool}, (ordS s (begS N) rs).length = N := by intro s; rw [ord_len, beg_len]
  generalize hW : prW (ordS true (begS N) rs) (ordS false (begS N) rs) = W
  have lm := log_make (N := N) (rs := rs) (st := st) (fr := lCons (eVar 0) (lCons (eVar 1) lNil)) (env := [some (.int (N : Int)), some (.tup (rs.map rwD)), none, none, none, none, none]) (cons_fin (var_fin (x := .int (N : Int)) rfl) (cons_fin (var_fin (x := .tup (rs.map rwD)) rfl) nil_fin)) hN1 hN hM hrs
  have k0 : ir0 [some (.int (N : Int)), some (.tup (rs.map rwD)), none, none, none, none, none] st = .next [some (.int (N : Int)), some (.tup (rs.map rwD)), some (.ref st.length), none, none, none, none] (st ++ [logO N rs]) := by
    unfold ir0 ir0e
    rw [sSet_ap, lm]
    rfl
  have hl0 : (st ++ [logO N rs])[st.length]? = some (logO N rs) := List.getElem?_concat_length
  generalize hS1 : st ++ [logO N rs] = S1 at *
  have hS1l : S1.length = st.length + 1 := by rw [← hS1]; simp
  have nd := needless_ok (st := S1) hl0 hN1 hN (by omega) hrs hf
  have k1 : ir1 [some (.int (N : Int)), some (.tup (rs.map rwD)), some (.ref st.length), none, none, none, none] S1 = .next [some (.int (N : Int)), some (.tup (rs.map rwD)), some (.ref st.length), some (tI (ndI N rs)), none, none, none] S1 := by
    unfold ir1 ir1e
    rw [sSet_ap, call_fin (cons_fin (var_fin (x := .ref st.length) rfl) nil_fin) nd]
    rfl
  have lo := law_orders_pr (st := S1) hN hrs
  rw [hW] at lo
  have k2 : ir2 [some (.int (N : Int)), some (.tup (rs.map rwD)), some (.ref st.length), some (tI (ndI N rs)), none, none, none] S1 = .next [some (.int (N : Int)), some (.tup (rs.map rwD)), some (.ref st.length), some (tI (ndI N rs)), some W, none, none] S1 := by
    unfold ir2 ir2e
    rw [sSet_ap, call_fin (cons_fin (var_fin (x := .int (N : Int)) rfl) (cons_fin (var_fin (x := .tup (rs.map rwD)) rfl) nil_fin)) lo]
    rfl
  have k3 : ir3 [some (.int (N : Int)), some (.tup (rs.map rwD)), some (.ref st.length), some (tI (ndI N rs)), some W, none, none] S1 = .next [some (.int (N : Int)), some (.tup (rs.map rwD)), some (.ref st.length), some (tI (ndI N rs)), some W, some (.ref S1.length), none] (S1 ++ [.lst []]) := by
    unfold ir3 ir3l
    rw [sSet_ap, lst_fin (ds := []) (by
      rw [lLst_ap, nil_fin]
      simp only [R.bind_ok, List.length_nil]
      rw [okIf_pos (Nat.zero_le _)])]
    rfl
  have lnE : ∀ (env : AEnv) (s : Store), env[1]? = some (some (.tup (rs.map rwD))) → eQ lenG (lRd (eVar 1)) env s = .ok (.int (rs.length : Int)) s := fun env s h => by
    rw [eQ_ap, lRd_ap, var_fin h]
    show lenG (rs.map rwD) _ = _
    rw [lenG_eq, List.length_map]
  have itE : ∀ (env : AEnv) (s : Store), env[1]? = some (some (.tup (rs.map rwD))) → iRng1F (lCons (eQ lenG (lRd (eVar 1))) lNil) env s = .ok (rangeD 0 rs.length, []) s := fun env s h => by
    have rg : rngR1 (rs.length : Int) s = .ok (rangeD 0 rs.length, []) s := rngR_nat (by omega)
    rw [iRng1F_ap, cons_fin (lnE env s h) nil_fin]
    exact rg
  have k4 : ∃ q6, ir4 [some (.int (N : Int)), some (.tup (rs.map rwD)), some (.ref st.length), some (tI (ndI N rs)), some W, some (.ref S1.length), none] (S1 ++ [.lst []]) = .next [some (.int (N : Int)), some (.tup (rs.map rwD)), some (.ref st.length), some (tI (ndI N rs)), some W, some (.ref S1.length), q6] (S1 ++ [.lst ((ndI N rs).map D.int)]) := by
    unfold ir4
    rw [sFor_ap, itE _ _ rfl]
    simp only [sOf_ok]
    rw [if_pos (by simp)]
    generalize hr1 : loopF _ _ _ _ _ _ = r1
    obtain ⟨ev, s', rfl, q6, rfl, rfl⟩ := loopF_next hr1 (fun i env s' => ∃ q6 : Option D, env = [some (.int (N : Int)), some (.tup (rs.map rwD)), some (.ref st.length), some (tI (ndI N rs)), some W, some (.ref S1.length), q6] ∧ s' = S1 ++ [.lst ((ndP N rs i).map D.int)]) ⟨none, rfl, rfl⟩ fun i dd env s' hI hdd => by
      obtain ⟨q6, rfl, rfl⟩ := hI
      obtain ⟨rfl, hi⟩ := rangeD_get' hdd
      have sl := skip_sl (rs := rs) (i := i) (st := S1 ++ [.lst ((ndP N rs i).map D.int)]) (env := [some (.int (N : Int)), some (.tup (rs.map rwD)), some (.ref st.length), some (tI (ndI N rs)), some W, some (.ref S1.length), some (.int (i : Int))]) (a := 1) (b := 6) rfl rfl (by omega)
      have lo2 := law_orders_pr (st := S1 ++ [.lst ((ndP N rs i).map D.int)]) (rs := skipR rs i) hN (fun r hr => hrs r (skip_mem hr))
      have eq := eqD_pr (st := S1 ++ [.lst ((ndP N rs i).map D.int)]) (a := ordS true (begS N) (skipR rs i)) (b := ordS false (begS N) (skipR rs i)) (c := ordS true (begS N) rs) (d := ordS false (begS N) rs)
      have eb : decide (ordS true (begS N) (skipR rs i) = ordS true (begS N) rs ∧ ordS false (begS N) (skipR rs i) = ordS false (begS N) rs) = needB N rs i := by
        unfold needB sameO
        rfl
      rw [eb, hW] at eq
      have cond := bb_fin (e2_fin (call_fin (cons_fin (var_fin (x := .int (N : Int)) (i := 0) rfl) (cons_fin sl nil_fin)) lo2) (var_fin (x := W) (i := 4) rfl) eq)
      have hκ : (S1 ++ [AO.lst ((ndP N rs i).map D.int)])[S1.length]? = some (.lst ((ndP N rs i).map D.int)) := List.getElem?_concat_length
      refine ⟨_, asgT_name _ _ _, [some (.int (N : Int)), some (.tup (rs.map rwD)), some (.ref st.length), some (tI (ndI N rs)), some W, some (.ref S1.length), some (.int (i : Int))], S1 ++ [.lst ((ndP N rs (i + 1)).map D.int)], .inl ?_, by simp, some (.int (i : Int)), rfl, rfl⟩
      show ir4b [some (.int (N : Int)), some (.tup (rs.map rwD)), some (.ref st.length), some (tI (ndI N rs)), some W, some (.ref S1.length), some (.int (i : Int))] _ = _
      unfold ir4b ir4_0
      cases c : needB N rs i with
      | true =>
        rw [c] at cond
        have zr : ((ndP N rs i).map D.int).length < sizeLine := by
          rw [List.length_map]
          have := ndP_len (N := N) (rs := rs) i
          exact szl (n := (ndP N rs i).length + 1) (by omega)
        have ap := appendG_ref (d := .int (i : Int)) hκ zr
        have il : isLst (.ref S1.length) (S1 ++ [.lst ((ndP N rs i).map D.int)]) = true := by simp only [isLst, hκ]
        rw [if_fin cond, if_pos rfl, sDrop_ap, eM_ap, var_fin (x := .ref S1.length) rfl]
        simp only [R.bind_ok]
        rw [il, if_pos rfl, cons_fin (var_fin (x := .int (i : Int)) rfl) nil_fin]
        simp only [R.bind_ok]
        rw [ap]
        show RS.next _ _ = _
        congr 1
        rw [ndP_suc, c, if_pos rfl, List.map_append, List.set_append_right _ _ (Nat.le_refl _)]
        simp
      | false =>
        rw [c] at cond
        rw [if_fin cond, ndP_suc, c]
        simp [sNil]
    rw [rangeD_lenS, ndP_all]
    exact ⟨q6, rfl⟩
  obtain ⟨q6, k4⟩ := k4
  have hκ : (S1 ++ [AO.lst ((ndI N rs).map D.int)])[S1.length]? = some (.lst ((ndI N rs).map D.int)) := List.getElem?_concat_length
  have hl2 : (S1 ++ [AO.lst ((ndI N rs).map D.int)])[st.length]? = some (logO N rs) := keepN hl0
  generalize hS2 : S1 ++ [AO.lst ((ndI N rs).map D.int)] = S2 at *
  have k5 : ir5 [some (.int (N : Int)), some (.tup (rs.map rwD)), some (.ref st.length), some (tI (ndI N rs)), some W, some (.ref S1.length), q6] S2 = .next [some (.int (N : Int)), some (.tup (rs.map rwD)), some (.ref st.length), some (tI (ndI N rs)), some W, some (.ref S1.length), q6] S2 := by
    unfold ir5
    rw [if_fin (S := S2) (c := false) (by
      rw [bOr_ap, not_fin (b := true) (tru_fin (call_fin (cons_fin (var_fin (x := tI (ndI N rs)) rfl) (cons_fin (lnE _ _ rfl) nil_fin)) (numbers_ok (by omega))))]
      simp only [R.bind_ok, Bool.not_true, Bool.false_eq_true, if_false]
      refine bb_fin (e2_fin (var_fin (x := tI (ndI N rs)) rfl) (y := tI (ndI N rs)) (S' := S2) ?_ ?_)
      · rw [eQ_ap, lRd_ap, var_fin (x := .ref S1.length) rfl]
        simp only [R.bind_ok]
        rw [seqOf_ref, hκ]
        exact tupG_eq _ _
      · unfold tI
        rw [neD_ints]
        simp)]
    rfl
  have k6 : ir6 [some (.int (N : Int)), some (.tup (rs.map rwD)), some (.ref st.length), some (tI (ndI N rs)), some W, some (.ref S1.length), q6] S2 = .next [some (.int (N : Int)), some (.tup (rs.map rwD)), some (.ref st.length), some (tI (ndI N rs)), some W, some (.ref S1.length), q6] S2 := by
    have w0 : getD W (.int 0) S2 = .ok (tD (ordS true (begS N) rs)) S2 := by rw [← hW]; exact getD_at (k := 0) rfl
    have w1 : getD W (.int 1) S2 = .ok (tD (ordS false (begS N) rs)) S2 := by rw [← hW]; exact getD_at (k := 1) rfl
    have t0 := turned_ok (st := S2) (l := ordS true (begS N) rs) (by rw [hT]; exact hN)
    have t1 := turned_ok (st := S2) (l := ordS false (begS N) rs) (by rw [hT]; exact hN)
    have e0 : eqD (tI (ndI N rs)) (.tup []) S2 = .ok (.bl (decide (ndI N rs = []))) S2 := eqD_ints (ndI N rs) []
    have en : decide (ndI N rs = []) = decide ((rs.length : Int) = ((invI (ordS true (begS N) rs) : Nat) : Int) + ((invI (ordS false (begS N) rs) : Nat) : Int)) := by
      have nn := nd_nil (N := N) hrs
      rw [Bool.eq_iff_iff, decide_eq_true_iff, decide_eq_true_iff]
      unfold ndI
      rw [List.map_eq_nil_iff, nn]
      omega
    unfold ir6
    rw [if_fin (S := S2) (c := false) (by
      refine bb_fin (e2_fin (e2_fin (var_fin (x := tI (ndI N rs)) rfl) (y := .tup []) (S' := S2) ?_ e0) (e2_fin (lnE _ _ rfl) (e2_fin (call_fin (cons_fin (e2_fin (var_fin (x := W) rfl) (show eC (.int 0) _ S2 = .ok (.int 0) S2 from rfl) w0) nil_fin) t0) (call_fin (cons_fin (e2_fin (var_fin (x := W) rfl) (show eC (.int 1) _ S2 = .ok (.int 1) S2 from rfl) w1) nil_fin) t1) (addD_int _ _ _)) (eqD_int _ _)) ?_)
      · rw [eTup_ap, nil_fin]
        simp only [R.bind_ok, List.length_nil]
        rw [okIf_pos (Nat.zero_le _)]
      · rw [neD_bl, en]
        simp)]
    rfl
  have k7 : ∃ (q7 : Option D) (X : Store), ir7 [some (.int (N : Int)), some (.tup (rs.map rwD)), some (.ref st.length), some (tI (ndI N rs)), some W, some (.ref S1.length), q6] S2 = .next [some (.int (N : Int)), some (.tup (rs.map rwD)), some (.ref st.length), some (tI (ndI N rs)), some W, some (.ref S1.length), q7] (S2 ++ X) := by
    unfold ir7
    rw [sFor_ap, itE _ _ rfl]
    simp only [sOf_ok]
    rw [if_pos (by simp)]
    generalize hr1 : loopF _ _ _ _ _ _ = r1
    obtain ⟨ev, s', rfl, q6, X, rfl, rfl⟩ := loopF_next hr1 (fun i env s' => ∃ (q6 : Option D) (X : Store), env = [some (.int (N : Int)), some (.tup (rs.map rwD)), some (.ref st.length), some (tI (ndI N rs)), some W, some (.ref S1.length), q6] ∧ s' = S2 ++ X) ⟨q6, [], rfl, by simp⟩ fun i dd env s' hI hdd => by
      obtain ⟨q6, X, rfl, rfl⟩ := hI
      obtain ⟨rfl, hi⟩ := rangeD_get' hdd
      generalize hEnv : ([some (.int (N : Int)), some (.tup (rs.map rwD)), some (.ref st.length), some (tI (ndI N rs)), some W, some (.ref S1.length), some (.int (i : Int))] : AEnv) = env
      have v2 : env[2]? = some (some (.ref st.length)) := by rw [← hEnv]; rfl
      have v3 : env[3]? = some (some (tI (ndI N rs))) := by rw [← hEnv]; rfl
      have v6 : env[6]? = some (some (.int (i : Int))) := by rw [← hEnv]; rfl
      have v1 : env[1]? = some (some (.tup (rs.map rwD))) := by rw [← hEnv]; rfl
      have inN : ∀ (j : Nat) (s : Store), inD2 (.int (j : Int)) (tI (ndI N rs)) s = .ok (.bl (decide ((j : Int) ∈ ndI N rs))) s := fun j s => in_tupI
      have q0 : ∃ Y, ir7_0 env (S2 ++ X) = .next env (S2 ++ X ++ Y) := by
        unfold ir7_0
        by_cases c : (i : Int) < 3
        · refine ⟨[logO N (skipR rs i)], ?_⟩
          have wo := without_ok (st := S2 ++ X) (i := i) (keepN hl2) hi hN1 hN (by omega)
          have la := let_alike_any (st := S2 ++ X ++ [logO N (skipR rs i)]) (p := (S2 ++ X).length) (q := st.length) (rs := skipR rs i) (qs := rs) List.getElem?_concat_length (keepN (keepN hl2)) hN (fun r hr => hrs r (skip_mem hr)) hrs (fun r hr => hf r (skip_mem hr)) hf
          have eb : decide ((i : Int) ∈ ndI N rs) = decide (sameO N (skipR rs i) rs) := by
            rw [Bool.eq_iff_iff, decide_eq_true_iff, ndI_mem]
            unfold needB
            exact ⟨fun z => z.2, fun z => ⟨hi, z⟩⟩
          rw [if_fin (S := S2 ++ X ++ [logO N (skipR rs i)]) (c := false) (by
            rw [bAnd_ap, bb_fin (b := true) (e2_fin (var_fin v6) (show eC (.int 3) _ _ = .ok (.int 3) _ from rfl) (by rw [lt_is, decide_eq_true c]))]
            simp only [R.bind_ok, if_true]
            refine bb_fin (e2_fin (call_fin (cons_fin (call_fin (cons_fin (var_fin v2) (cons_fin (var_fin v6) nil_fin)) wo) (cons_fin (var_fin v2) nil_fin)) la) (e2_fin (var_fin v6) (var_fin v3) (inN i _)) ?_)
            rw [neD_bl, eb]
            simp)]
          rfl
        · refine ⟨[], ?_⟩
          rw [if_fin (S := S2 ++ X) (c := false) (by
            rw [bAnd_ap, bb_fin (b := false) (e2_fin (var_fin v6) (show eC (.int 3) _ _ = .ok (.int 3) _ from rfl) (by rw [lt_is, decide_eq_false c]))]
            rfl)]
          simp [sNil]
      obtain ⟨Y, q0⟩ := q0
      have q1 : ir7_1 env (S2 ++ X ++ Y) = .next env (S2 ++ X ++ Y) := by
        generalize S2 ++ X ++ Y = S3
        unfold ir7_1
        rw [if_fin (S := S3) (c := false) (by
          by_cases c : 0 < i
          · obtain ⟨j, rfl⟩ : ∃ j, i = j + 1 := ⟨i - 1, by omega⟩
            rw [bAnd_ap, bb_fin (b := true) (e2_fin (var_fin v6) (show eC (.int 0) _ _ = .ok (.int 0) _ from rfl) (by rw [gt_is, decide_eq_true (by omega)]))]
            simp only [R.bind_ok, if_true]
            have g1 : getD (.tup (rs.map rwD)) (.int ((j + 1 : Nat) : Int)) S3 = .ok (rwD (rs[j + 1]'hi)) S3 := getD_at (by rw [List.getElem?_map, List.getElem?_eq_getElem hi]; rfl)
            have g0 : getD (.tup (rs.map rwD)) (.int (j : Int)) S3 = .ok (rwD (rs[j]'(by omega))) S3 := getD_at (by rw [List.getElem?_map, List.getElem?_eq_getElem (by omega)]; rfl)
            have sj : subD (.int ((j + 1 : Nat) : Int)) (.int 1) S3 = .ok (.int (j : Int)) S3 := by
              rw [sub_is]
              congr 2
              omega
            have er := eqD_rwR (st := S3) (rs[j + 1]'hi) (rs[j]'(by omega))
            by_cases e : rs[j + 1].x = rs[j].x ∧ rs[j + 1].y = rs[j].y ∧ rs[j + 1].f = rs[j].f
            · rw [decide_eq_true e] at er
              have e' : rs[j]? = rs[j + 1]? := by
                rw [List.getElem?_eq_getElem hi, List.getElem?_eq_getElem (by omega)]
                congr 1
                generalize hA : rs[j + 1] = A at e
                generalize hB : rs[j] = B at e
                cases A; cases B
                simp only at e
                obtain ⟨e1, e2, e3⟩ := e
                rw [e1, e2, e3]
              obtain ⟨s1, s2⟩ := twin_same hrs hi e'
              have m1 : decide (((j + 1 : Nat) : Int) ∈ ndI N rs) = true := decide_eq_true (ndI_mem.mpr ⟨hi, decide_eq_true s2⟩)
              have m0 : decide ((j : Int) ∈ ndI N rs) = true := decide_eq_true (ndI_mem.mpr ⟨by omega, decide_eq_true s1⟩)
              have i1 := inN (j + 1) S3
              have i0 := inN j S3
              rw [m1] at i1
              rw [m0] at i0
              have n1 := nin_of_in i1
              have n0 := nin_of_in i0
              rw [bAnd_ap, bb_fin (b := true) (e2_fin (e2_fin (var_fin v1) (var_fin v6) g1) (e2_fin (var_fin v1) (e2_fin (var_fin v6) (show eC (.int 1) _ _ = .ok (.int 1) _ from rfl) sj) g0) er)]
              simp only [R.bind_ok, if_true]
              rw [bOr_ap, bb_fin (b := false) (e2_fin (var_fin v6) (var_fin v3) n1)]
              simp only [R.bind_ok, Bool.false_eq_true, if_false]
              exact bb_fin (e2_fin (e2_fin (var_fin v6) (show eC (.int 1) _ _ = .ok (.int 1) _ from rfl) sj) (var_fin v3) n0)
            · rw [decide_eq_false e] at er
              rw [bAnd_ap, bb_fin (b := false) (e2_fin (e2_fin (var_fin v1) (var_fin v6) g1) (e2_fin (var_fin v1) (e2_fin (var_fin v6) (show eC (.int 1) _ _ = .ok (.int 1) _ from rfl) sj) g0) er)]
              rfl
          · rw [bAnd_ap, bb_fin (b := false) (e2_fin (var_fin v6) (show eC (.int 0) _ _ = .ok (.int 0) _ from rfl) (by rw [gt_is, decide_eq_false (by omega)]))]
            rfl)]
        rfl
      refine ⟨_, asgT_name _ _ _, env, S2 ++ X ++ Y, .inl ?_, by simp, some (.int (i : Int)), X ++ Y, hEnv.symm, by rw [List.append_assoc]⟩
      show (sSeq ir7_0 ir7_1) [some (.int (N : Int)), some (.tup (rs.map rwD)), some (.ref st.length), some (tI (ndI N rs)), some W, some (.ref S1.length), some (.int (i : Int))] _ = _
      rw [hEnv, fin_seq q0, q1]
    exact ⟨q6, X, rfl⟩
  obtain ⟨q6', X, k7⟩ := k7
  have k8 : ir8 [some (.int (N : Int)), some (.tup (rs.map rwD)), some (.ref st.length), some (tI (ndI N rs)), some W, some (.ref S1.length), q6'] (S2 ++ X) = .ret (.bl true) (S2 ++ X) := by
    have nd2 := needless_ok (st := S2 ++ X) (keepN hl2) hN1 hN (by omega) hrs hf
    unfold ir8 ir8e
    refine ret_fin (e2_fin (call_fin (cons_fin (var_fin (x := .ref st.length) rfl) nil_fin) nd2) (var_fin (x := tI (ndI N rs)) rfl) ?_)
    unfold tI
    rw [eqD_ints]
    simp
  have run : ∃ Y, m__law_is_right [.int (N : Int), .tup (rs.map rwD)] st = .ok (.bl true) (st ++ Y) := by
    refine ⟨[logO N rs] ++ [.lst ((ndI N rs).map D.int)] ++ X, ?_⟩
    rw [ir_cut]
    simp only [runDef_ap]
    rw [ee, fin_seq k0, fin_seq k1, fin_seq k2, fin_seq k3, fin_seq k4, fin_seq k5, fin_seq k6, fin_seq k7, k8, ← hS2, ← hS1]
    simp
  obtain ⟨Y, run⟩ := run
  rw [run]
  exact gcR_ok _ rfl
/-- the row put in a second time -/
theorem twin_sl {env : AEnv} {a b : Nat} {j : Nat} (h1 : env[a]? = some (some (.tup (rs.map rwD)))) (h2 : env[b]? = some (some (.int (j : Int)))) (hj : rs[j]? = some r) (hM : rs.length ≤ 1000) : e2 addD (e2 addD (eSl (eVar a) oNone (oSome (eVar b))) (eTup (lCons (e2 getD (eVar a) (eVar b)) lNil))) (eSl (eVar a) (oSome (eVar b)) oNone) env st = .ok (.tup ((rs.take j ++ [r] ++ rs.drop j).map rwD)) st := by
  have ch := cut_hi (rs.map rwD) j
  have cl := cut_lo (rs.map rwD) j
  have z1 : 1 ≤ sizeLine := szl (by omega)
  have s1 : eSl (eVar a) oNone (oSome (eVar b)) env st = .ok (.tup ((rs.map rwD).take j)) st := by
    rw [eSl_ap, var_fin h1]
    simp only [R.bind_ok]
    rw [show oNone env st = .ok none st from rfl]
    simp only [R.bind_ok]
    rw [oSome_ap, var_fin h2]
    simp only [R.bind_ok]
    rw [ch]
  have s2 : eSl (eVar a) (oSome (eVar b)) oNone env st = .ok (.tup ((rs.map rwD).drop j)) st := by
    rw [eSl_ap, var_fin h1]
    simp only [R.bind_ok]
    rw [oSome_ap, var_fin h2]
    simp only [R.bind_ok]
    rw [show oNone env st = .ok none st from rfl]
    simp only [R.bind_ok]
    rw [cl]
  have g : getD (.tup (rs.map rwD)) (.int (j : Int)) st = .ok (rwD r) st := getD_at (by rw [List.getElem?_map, hj]; rfl)
  have et : eTup (lCons (e2 getD (eVar a) (eVar b)) lNil) env st = .ok (.tup [rwD r]) st := by
    rw [eTup_ap, cons_fin (e2_fin (var_fin h1) (var_fin h2) g) nil_fin]
    simp only [R.bind_ok, List.length_cons, List.length_nil]
    rw [okIf_pos z1]
  have x1 : ((rs.map rwD).take j).length + [rwD r].length ≤ sizeLine := szl (by simp; omega)
  have x2 : ((rs.map rwD).take j ++ [rwD r]).length + ((rs.map rwD).drop j).length ≤ sizeLine := szl (by simp; omega)
  have em : (rs.take j ++ [r] ++ rs.drop j).map rwD = (rs.map rwD).take j ++ [rwD r] ++ (rs.map rwD).drop j := by rw [List.map_append, List.map_append, List.map_take, List.map_drop]; rfl
  rw [em]
  refine e2_fin (e2_fin s1 et (by rw [addD_tup, okIf_pos x1])) s2 (by rw [addD_tup, okIf_pos x2])
theorem la_turn {i : Nat} (h : Dice n k S) (hk : k < 5000) (hi : i < 3) : ∃ q3 q4 q5 S', la1b [o0, some (.ref n), some (.int (i : Int)), o3, o4, o5] S = .next [o0, some (.ref n), some (.int (i : Int)), q3, q4, q5] S' ∧ Dice n (k + 40) S' := by
  have z3 : 3 ≤ sizeLine := szl (by omega)
  obtain ⟨w, s1, hw, w0, w1, D1, S1⟩ := draw_ok (s := 4) h (by omega) (by omega) (by omega)
  obtain ⟨N, hN, n1, n4⟩ : ∃ N : Nat, [D.int (1 + w), .int 3, .int 4][i]? = some (.int (N : Int)) ∧ 1 ≤ N ∧ N ≤ 4 := by
    match i, hi with
    | 0, _ => exact ⟨(1 + w).toNat, by show some (D.int (1 + w)) = _; congr 2; omega, by omega, by omega⟩
    | 1, _ => exact ⟨3, rfl, by omega, by omega⟩
    | 2, _ => exact ⟨4, rfl, by omega, by omega⟩
    | i + 3, h => omega
  have k0 : la1_0 [o0, some (.ref n), some (.int (i : Int)), o3, o4, o5] S = .next [o0, some (.ref n), some (.int (i : Int)), some (.int (N : Int)), o4, o5] (s1 ++ [.lst [.int (1 + w), .int 3, .int 4]]) := by
    unfold la1_0 la1_0e
    have ll : eLst (lLst (lCons (e2 addD (eC (.int 1)) (eCall m__law_draw (lCons (eVar 1) (lCons (eC (.int 4)) lNil)))) (lCons (eC (.int 3)) (lCons (eC (.int 4)) lNil)))) [o0, some (.ref n), some (.int (i : Int)), o3, o4, o5] S = .ok (.ref s1.length) (s1 ++ [.lst [.int (1 + w), .int 3, .int 4]]) := by
      refine lst_fin ?_
      rw [lLst_ap, cons_fin (e2_fin (show eC (.int 1) _ S = .ok (.int 1) S from rfl) (call_fin (cons_fin (var_fin (x := .ref n) rfl) (cons_fin (show eC (.int 4) _ S = .ok (.int 4) S from rfl) nil_fin)) hw) (addD_int _ _ _)) (cons_fin (show eC (.int 3) _ s1 = .ok (.int 3) s1 from rfl) (cons_fin (show eC (.int 4) _ s1 = .ok (.int 4) s1 from rfl) nil_fin))]
      simp only [R.bind_ok, List.length_cons, List.length_nil]
      rw [okIf_pos z3]
    rw [sSet_ap, e2_fin ll (var_fin (x := .int (i : Int)) rfl) (getD_r (k := i) List.getElem?_concat_length rfl hN)]
    rfl
  have D2 : Dice n (k + 1) (s1 ++ [.lst [.int (1 + w), .int 3, .int 4]]) := D1.app _
  generalize s1 ++ [AO.lst [.int (1 + w), .int 3, .int 4]] = S2 at *
  obtain ⟨rs, s3, er, hrs, hf, hM, D3, S3⟩ := rows_okL (M := 7) D2 (by omega) n1 (by omega) (by omega)
  have k1 : la1_1 [o0, some (.ref n), some (.int (i : Int)), some (.int (N : Int)), o4, o5] S2 = .next [o0, some (.ref n), some (.int (i : Int)), some (.int (N : Int)), some (.tup (rs.map rwD)), o5] s3 := by
    unfold la1_1 la1_1e
    rw [sSet_ap, call_fin (cons_fin (var_fin (x := .ref n) rfl) (cons_fin (var_fin (x := .int (N : Int)) rfl) (cons_fin (show eC (.int 7) _ S2 = .ok (.int 7) S2 from rfl) (cons_fin (show eC (.int 0) _ S2 = .ok (.int 0) S2 from rfl) nil_fin)))) (show gcH S2 (m__law_rows [.ref n, .int N, .int 7, .int 0] S2) = _ from er)]
    rfl
  have lm := log_make (N := N) (rs := rs) (st := s3) (fr := lCons (eVar 3) (lCons (eVar 4) lNil)) (env := [o0, some (.ref n), some (.int (i : Int)), some (.int (N : Int)), some (.tup (rs.map rwD)), o5]) (cons_fin (var_fin (x := .int (N : Int)) rfl) (cons_fin (var_fin (x := .tup (rs.map rwD)) rfl) nil_fin)) n1 (by omega) (by omega) hrs
  have k2 : la1_2 [o0, some (.ref n), some (.int (i : Int)), some (.int (N : Int)), some (.tup (rs.map rwD)), o5] s3 = .next [o0, some (.ref n), some (.int (i : Int)), some (.int (N : Int)), some (.tup (rs.map rwD)), o5] (s3 ++ [logO N rs]) := by
    have rk := right_ok (st := s3) (rs := rs) n1 (by omega) (by omega) hrs hf
    have nd := needless_ok (st := s3 ++ [logO N rs]) (p := s3.length) List.getElem?_concat_length n1 (by omega) (by omega) hrs hf
    have bd := by_doings_ok (st := s3 ++ [logO N rs]) (rs := rs) n1 (by omega) (by omega) hrs hf
    unfold la1_2
    rw [if_fin (S := s3 ++ [logO N rs]) (c := false) (by
      rw [bOr_ap, not_fin (b := true) (tru_fin (call_fin (cons_fin (var_fin (x := .int (N : Int)) rfl) (cons_fin (var_fin (x := .tup (rs.map rwD)) rfl) nil_fin)) rk))]
      simp only [R.bind_ok, Bool.not_true, Bool.false_eq_true, if_false]
      refine bb_fin (e2_fin (call_fin (cons_fin lm nil_fin) nd) (call_fin (cons_fin (var_fin (x := .int (N : Int)) rfl) (cons_fin (var_fin (x := .tup (rs.map rwD)) rfl) nil_fin)) bd) ?_)
      unfold tI
      rw [neD_ints]
      simp)]
    rfl
  have D4 : Dice n (k + 30) (s3 ++ [logO N rs]) := (D3.app _).mono (by push_cast; omega)
  generalize s3 ++ [logO N rs] = S4 at *
  have lnE : eQ lenG (lRd (eVar 4)) [o0, some (.ref n), some (.int (i : Int)), some (.int (N : Int)), some (.tup (rs.map rwD)), o5] S4 = .ok (.int (rs.length : Int)) S4 := by
    rw [eQ_ap, lRd_ap, var_fin (x := .tup (rs.map rwD)) rfl]
    show lenG (rs.map rwD) _ = _
    rw [lenG_eq, List.length_map]
  have c3 := bb_fin (e2_fin lnE (show eC (.int 0) _ S4 = .ok (.int 0) S4 from rfl) (gt_is _ _))
  have k3 : ∃ q5 S', la1_3 [o0, some (.ref n), some (.int (i : Int)), some (.int (N : Int)), some (.tup (rs.map rwD)), o5] S4 = .next [o0, some (.ref n), some (.int (i : Int)), some (.int (N : Int)), some (.tup (rs.map rwD)), q5] S' ∧ Dice n (k + 40) S' := by
    unfold la1_3
    rw [if_fin c3]
    by_cases c : 0 < rs.length
    · rw [if_pos (decide_eq_true (by omega))]
      obtain ⟨a, s5, ha, a0, a1, D5, S5⟩ := draw_ok (s := (rs.length : Int)) D4 (by omega) (by omega) (by omega)
      obtain ⟨a, rfl⟩ : ∃ y : Nat, a = y := ⟨a.toNat, by omega⟩
      have hal : a < rs.length := by omega
      have hr := List.getElem?_eq_getElem hal
      generalize rs[a] = r at hr
      have hrm := List.mem_of_getElem? hr
      have j0 : la1_3t0 [o0, some (.ref n), some (.int (i : Int)), some (.int (N : Int)), some (.tup (rs.map rwD)), o5] S4 = .next [o0, some (.ref n), some (.int (i : Int)), some (.int (N : Int)), some (.tup (rs.map rwD)), some (.int (a : Int))] s5 := by
        unfold la1_3t0 la1_3t0e
        rw [sSet_ap, call_fin (cons_fin (var_fin (x := .ref n) rfl) (cons_fin lnE nil_fin)) ha]
        rfl
      have sl := twin_sl (st := s5) (env := [o0, some (.ref n), some (.int (i : Int)), some (.int (N : Int)), some (.tup (rs.map rwD)), some (.int (a : Int))]) (a := 4) (b := 5) rfl rfl hr (by omega)
      have mm : ∀ q ∈ rs.take a ++ [r] ++ rs.drop a, q ∈ rs := fun q hq => by
        rcases List.mem_append.mp hq with h | h
        · rcases List.mem_append.mp h with h | h
          · exact List.mem_of_mem_take h
          · rw [List.mem_singleton.mp h]; exact hrm
        · exact List.mem_of_mem_drop h
      have rk := right_ok (st := s5) (rs := rs.take a ++ [r] ++ rs.drop a) n1 (by omega) (by simp; omega) (fun q hq => hrs q (mm q hq)) (fun q hq => hf q (mm q hq))
      refine ⟨some (.int (a : Int)), s5, ?_, D5.mono (by omega)⟩
      unfold la1_3tB
      rw [fin_seq j0]
      unfold la1_3t1
      rw [if_fin (not_fin (tru_fin (call_fin (cons_fin (var_fin (x := .int (N : Int)) (i := 3) rfl) (cons_fin sl nil_fin)) rk)))]
      rfl
    · rw [decide_eq_false (by omega)]
      exact ⟨o5, S4, rfl, D4.mono (by omega)⟩
  obtain ⟨q5, S', k3, D5⟩ := k3
  refine ⟨some (.int (N : Int)), some (.tup (rs.map rwD)), q5, S', ?_, D5⟩
  unfold la1b
  rw [fin_seq k0, fin_seq k1, fin_seq k2, k3]
end
theorem law_thm : ∀ ns : List Int, ns.length ≤ 63 → ∃ st', m_law [.ref 0] [.rol (ns.map D.int)] = .ok (.bl true) st' := by
  intro ns hn
  have z2 : 2 ≤ sizeLine := szl (by omega)
  obtain ⟨S, hh, D0⟩ := hand_ok ns (by omega)
  have k0 : la0 [some (.ref 0), none, none, none, none, none] [.rol (ns.map D.int)] = .next [some (.ref 0), some (.ref 2), none, none, none, none] S := by
    unfold la0 la0e
    simp [hh]
  have ee : (List.map some [D.ref 0] ++ List.replicate (6 - [D.ref 0].length) none : AEnv) = [some (.ref 0), none, none, none, none, none] := rfl
  have k1 : ∃ o2 o3 o4 o5 S1, la1 [some (.ref 0), some (.ref 2), none, none, none, none] S = .next [some (.ref 0), some (.ref 2), o2, o3, o4, o5] S1 ∧ Dice 2 200 S1 := by
    have it : iRng1F (lCons (eC (.int 3)) lNil) [some (.ref 0), some (.ref 2), none, none, none, none] S = .ok (rangeD 0 3, []) S := by
      have rg : rngR1 3 S = .ok (rangeD 0 3, []) S := rngR1_eq (by omega) (by omega)
      simp [rg]
    unfold la1
    rw [sFor_ap, it]
    simp only [sOf_ok]
    rw [if_pos (by simp)]
    generalize hr1 : loopF _ _ _ _ _ _ = r1
    obtain ⟨ev, s, rfl, o2, o3, o4, o5, rfl, D2⟩ := loopF_next hr1 (fun i env s => ∃ o2 o3 o4 o5, env = [some (.ref 0), some (.ref 2), o2, o3, o4, o5] ∧ Dice 2 (0 + 40 * (i : Int)) s) ⟨none, none, none, none, rfl, by simpa using D0⟩ fun i dd env s hI hdd => by
      obtain ⟨o2, o3, o4, o5, rfl, D2⟩ := hI
      obtain ⟨rfl, hi⟩ := rangeD_get' hdd
      obtain ⟨p3, p4, p5, S', e, D3⟩ := la_turn (o0 := some (.ref 0)) (o3 := o3) (o4 := o4) (o5 := o5) D2 (by omega) hi
      exact ⟨_, asgT_name _ _ _, _, S', .inl e, by simp, some (.int (i : Int)), p3, p4, p5, rfl, D3.mono (by push_cast; omega)⟩
    exact ⟨o2, o3, o4, o5, s, rfl, D2.mono (by rw [rangeD_lenS]; omega)⟩
  obtain ⟨o2, o3, o4, o5, S1, k1, D1⟩ := k1
  obtain ⟨w, s2, hw, w0, w1, D2, S2⟩ := draw_ok (s := 4) D1 (by omega) (by omega) (by omega)
  have D3 : Dice 2 202 (s2 ++ [.lst [.int (5 + w), .int 12]]) := (D2.app _).mono (by omega)
  obtain ⟨u, s4, hu, u0, u1, D4, S4⟩ := draw_ok (s := 6) D3 (by omega) (by omega) (by omega)
  have S4l : s4[s2.length]? = some (.lst [.int (5 + w), .int 12]) := by
    have := D2.lt
    rw [S4.2 _ (by omega)]
    exact List.getElem?_concat_length
  obtain ⟨N, b, hN, n1, n12, hb⟩ : ∃ (N : Nat) (b : Nat), [D.int (5 + w), .int 12][b]? = some (.int (N : Int)) ∧ 5 ≤ N ∧ N ≤ 12 ∧ (b : Int) = b2i (decide (u = 0)) := by
    by_cases c : u = 0
    · exact ⟨12, 1, rfl, by omega, by omega, by rw [decide_eq_true c]; rfl⟩
    · exact ⟨(5 + w).toNat, 0, by show some (D.int (5 + w)) = _; congr 2; omega, by omega, by omega, by rw [decide_eq_false c]; rfl⟩
  have k2 : la2 [some (.ref 0), some (.ref 2), o2, o3, o4, o5] S1 = .next [some (.ref 0), some (.ref 2), o2, some (.int (N : Int)), o4, o5] s4 := by
    unfold la2 la2e
    have ll : eLst (lLst (lCons (e2 addD (eC (.int 5)) (eCall m__law_draw (lCons (eVar 1) (lCons (eC (.int 4)) lNil)))) (lCons (eC (.int 12)) lNil))) [some (.ref 0), some (.ref 2), o2, o3, o4, o5] S1 = .ok (.ref s2.length) (s2 ++ [.lst [.int (5 + w), .int 12]]) := by
      refine lst_fin ?_
      rw [lLst_ap, cons_fin (e2_fin (show eC (.int 5) _ S1 = .ok (.int 5) S1 from rfl) (call_fin (cons_fin (var_fin (x := .ref 2) rfl) (cons_fin (show eC (.int 4) _ S1 = .ok (.int 4) S1 from rfl) nil_fin)) hw) (addD_int _ _ _)) (cons_fin (show eC (.int 12) _ s2 = .ok (.int 12) s2 from rfl) nil_fin)]
      simp only [R.bind_ok, List.length_cons, List.length_nil]
      rw [okIf_pos z2]
    have ei : eB intG (lCons (e2 eqD (eCall m__law_draw (lCons (eVar 1) (lCons (eC (.int 6)) lNil))) (eC (.int 0))) lNil) [some (.ref 0), some (.ref 2), o2, o3, o4, o5] (s2 ++ [.lst [.int (5 + w), .int 12]]) = .ok (.int (b : Int)) s4 := by
      rw [eB_ap, cons_fin (e2_fin (call_fin (cons_fin (var_fin (x := .ref 2) rfl) (cons_fin (show eC (.int 6) _ _ = .ok (.int 6) _ from rfl) nil_fin)) hu) (show eC (.int 0) _ _ = .ok (.int 0) _ from rfl) (eqD_int _ _)) nil_fin]
      simp only [R.bind_ok]
      rw [hb]
      rfl
    rw [sSet_ap, e2_fin ll ei (getD_r (k := b) S4l rfl hN)]
    rfl
  obtain ⟨M, b2, hM, hM60, hb2⟩ : ∃ (M : Nat) (b : Nat), [D.int 16, .int 30][b]? = some (.int (M : Int)) ∧ M ≤ 60 ∧ (b : Int) = b2i (decide ((N : Int) = 12)) := by
    by_cases c : (N : Int) = 12
    · exact ⟨30, 1, rfl, by omega, by rw [decide_eq_true c]; rfl⟩
    · exact ⟨16, 0, rfl, by omega, by rw [decide_eq_false c]; rfl⟩
  have D5 : Dice 2 300 (s4 ++ [.lst [.int 16, .int 30]]) := (D4.app _).mono (by omega)
  obtain ⟨rs, s6, er, hrs, hf, hMr, D6, S6⟩ := rows_okL (M := M) D5 (by omega) (by omega) n12 hM60
  have k3 : la3 [some (.ref 0), some (.ref 2), o2, some (.int (N : Int)), o4, o5] s4 = .ret (.bl true) s6 := by
    unfold la3 la3e
    have em : e2 getD (eLst (lLst (lCons (eC (.int 16)) (lCons (eC (.int 30)) lNil)))) (eB intG (lCons (e2 eqD (eVar 3) (eC (.int 12))) lNil)) [some (.ref 0), some (.ref 2), o2, some (.int (N : Int)), o4, o5] s4 = .ok (.int (M : Int)) (s4 ++ [.lst [.int 16, .int 30]]) := by
      have ll : eLst (lLst (lCons (eC (.int 16)) (lCons (eC (.int 30)) lNil))) [some (.ref 0), some (.ref 2), o2, some (.int (N : Int)), o4, o5] s4 = .ok (.ref s4.length) (s4 ++ [.lst [.int 16, .int 30]]) := by
        refine lst_fin ?_
        rw [lLst_ap, cons_fin (show eC (.int 16) _ s4 = .ok (.int 16) s4 from rfl) (cons_fin (show eC (.int 30) _ s4 = .ok (.int 30) s4 from rfl) nil_fin)]
        simp only [R.bind_ok, List.length_cons, List.length_nil]
        rw [okIf_pos z2]
      have ei : eB intG (lCons (e2 eqD (eVar 3) (eC (.int 12))) lNil) [some (.ref 0), some (.ref 2), o2, some (.int (N : Int)), o4, o5] (s4 ++ [.lst [.int 16, .int 30]]) = .ok (.int (b2 : Int)) (s4 ++ [.lst [.int 16, .int 30]]) := by
        rw [eB_ap, cons_fin (e2_fin (var_fin (x := .int (N : Int)) rfl) (show eC (.int 12) _ _ = .ok (.int 12) _ from rfl) (eqD_int _ _)) nil_fin]
        simp only [R.bind_ok]
        rw [hb2]
        rfl
      exact e2_fin ll ei (getD_r (k := b2) List.getElem?_concat_length rfl hM)
    have rk := right_ok (st := s6) (rs := rs) (by omega) n12 (by omega) hrs hf
    exact ret_fin (call_fin (cons_fin (var_fin (x := .int (N : Int)) rfl) (cons_fin (call_fin (cons_fin (var_fin (x := .ref 2) rfl) (cons_fin (var_fin (x := .int (N : Int)) rfl) (cons_fin em (cons_fin (show eC (.int 0) _ _ = .ok (.int 0) _ from rfl) nil_fin)))) er) nil_fin)) rk)
  refine ⟨s6, ?_⟩
  rw [la_cut]
  simp only [runDef_ap]
  rw [ee, fin_seq k0, fin_seq k1, fin_seq k2, k3]
end TK

set_option Elab.async false
set_option linter.all false
set_option maxRecDepth 100000
set_option maxHeartbeats 4000000
namespace TK
open PySem PySem.Spec
open PyProof.Rows hiding St
open L2
def tops (i : Nat) : Stmt := PySem.Challenge.pw_takenover_k60_whole_needless_rows.main.body.getD i (.Pass ⟨0, 0, 0, 0⟩)
abbrev s_is_integer : Stmt := tops 8
theorem sc_is_integer : FnScope ["thing"] ["thing"] (defScope s_is_integer) := ⟨rfl, rfl, rfl, by decide +kernel, rfl, by decide +kernel, by decide +kernel⟩
abbrev s_is_within : Stmt := tops 9
theorem sc_is_within : FnScope ["thing", "least", "most"] ["thing", "least", "most"] (defScope s_is_within) := ⟨rfl, rfl, rfl, by decide +kernel, rfl, by decide +kernel, by decide +kernel⟩
abbrev s_is_triple : Stmt := tops 10
theorem sc_is_triple : FnScope ["thing"] ["thing"] (defScope s_is_triple) := ⟨rfl, rfl, rfl, by decide +kernel, rfl, by decide +kernel, by decide +kernel⟩
abbrev s_is_flag : Stmt := tops 11
theorem sc_is_flag : FnScope ["thing"] ["thing"] (defScope s_is_flag) := ⟨rfl, rfl, rfl, by decide +kernel, rfl, by decide +kernel, by decide +kernel⟩
abbrev s_is_row : Stmt := tops 15
theorem sc_is_row : FnScope ["offices", "thing"] ["offices", "thing"] (defScope s_is_row) := ⟨rfl, rfl, rfl, by decide +kernel, rfl, by decide +kernel, by decide +kernel⟩
abbrev s_first_bad : Stmt := tops 16
theorem sc_first_bad : FnScope ["offices", "rows", "number", "row"] ["offices", "rows"] (defScope s_first_bad) := ⟨rfl, rfl, rfl, by decide +kernel, rfl, by decide +kernel, by decide +kernel⟩
abbrev s_Log__init : Stmt := inClass (tops 17) 0
theorem sc_Log__init : FnScope ["self", "offices", "rows", "wrong"] ["self", "offices", "rows"] (defScope s_Log__init) := ⟨rfl, rfl, rfl, by decide +kernel, rfl, by decide +kernel, by decide +kernel⟩
abbrev s_check_row : Stmt := tops 12
theorem sc_check_row : FnScope ["log", "row"] ["log", "row"] (defScope s_check_row) := ⟨rfl, rfl, rfl, by decide +kernel, rfl, by decide +kernel, by decide +kernel⟩
abbrev s_raw_log : Stmt := tops 18
theorem sc_raw_log : FnScope ["offices", "rows", "log"] ["offices", "rows"] (defScope s_raw_log) := ⟨rfl, rfl, rfl, by decide +kernel, rfl, by decide +kernel, by decide +kernel⟩
abbrev s_without : Stmt := tops 23
theorem sc_without : FnScope ["log", "row"] ["log", "row"] (defScope s_without) := ⟨rfl, rfl, rfl, by decide +kernel, rfl, by decide +kernel, by decide +kernel⟩
abbrev s_check_loose : Stmt := tops 25
theorem sc_check_loose : FnScope ["log", "number", "row"] ["log"] (defScope s_check_loose) := ⟨rfl, rfl, rfl, by decide +kernel, rfl, by decide +kernel, by decide +kernel⟩
abbrev s_is_left : Stmt := tops 19
theorem sc_is_left : FnScope ["row"] ["row"] (defScope s_is_left) := ⟨rfl, rfl, rfl, by decide +kernel, rfl, by decide +kernel, by decide +kernel⟩
abbrev s_cut_of : Stmt := tops 20
theorem sc_cut_of : FnScope ["row"] ["row"] (defScope s_cut_of) := ⟨rfl, rfl, rfl, by decide +kernel, rfl, by decide +kernel, by decide +kernel⟩
abbrev s_exchanged_at : Stmt := tops 27
theorem sc_exchanged_at : FnScope ["order", "cut"] ["order", "cut"] (defScope s_exchanged_at) := ⟨rfl, rfl, rfl, by decide +kernel, rfl, by decide +kernel, by decide +kernel⟩
abbrev s_order_led : Stmt := tops 28
theorem sc_order_led : FnScope ["order", "rows", "is_of_left", "found", "row"] ["order", "rows", "is_of_left"] (defScope s_order_led) := ⟨rfl, rfl, rfl, by decide +kernel, rfl, by decide +kernel, by decide +kernel⟩
abbrev s_orders : Stmt := tops 29
theorem sc_orders : FnScope ["log", "begin"] ["log"] (defScope s_orders) := ⟨rfl, rfl, rfl, by decide +kernel, rfl, by decide +kernel, by decide +kernel⟩
abbrev s_needless : Stmt := tops 33
theorem sc_needless : FnScope ["log", "due", "row"] ["log"] (defScope s_needless) := ⟨rfl, rfl, rfl, by decide +kernel, rfl, by decide +kernel, by decide +kernel⟩
abbrev s__law_hand : Stmt := tops 35
theorem sc__law_hand : FnScope ["_law_script", "_law_cells", "_law_cell"] ["_law_script"] (defScope s__law_hand) := ⟨rfl, rfl, rfl, by decide +kernel, rfl, by decide +kernel, by decide +kernel⟩
abbrev s__law_draw : Stmt := tops 36
theorem sc__law_draw : FnScope ["_law_hand_here", "_law_many", "_law_number", "_law_cell", "_law_digit"] ["_law_hand_here", "_law_many"] (defScope s__law_draw) := ⟨rfl, rfl, rfl, by decide +kernel, rfl, by decide +kernel, by decide +kernel⟩
abbrev s__law_rows : Stmt := tops 37
theorem sc__law_rows : FnScope ["_law_hand_here", "_law_offices", "_law_most", "_law_share", "_law_found", "_law_turn", "_law_low", "_law_pair"] ["_law_hand_here", "_law_offices", "_law_most", "_law_share"] (defScope s__law_rows) := ⟨rfl, rfl, rfl, by decide +kernel, rfl, by decide +kernel, by decide +kernel⟩
abbrev s_check_offices : Stmt := tops 22
theorem sc_check_offices : FnScope ["one_log", "other_log"] ["one_log", "other_log"] (defScope s_check_offices) := ⟨rfl, rfl, rfl, by decide +kernel, rfl, by decide +kernel, by decide +kernel⟩
abbrev s_check_both : Stmt := tops 31
theorem sc_check_both : FnScope ["one_log", "other_log"] ["one_log", "other_log"] (defScope s_check_both) := ⟨rfl, rfl, rfl, by decide +kernel, rfl, by decide +kernel, by decide +kernel⟩
abbrev s_let_alike : Stmt := tops 32
theorem sc_let_alike : FnScope ["one_log", "other_log"] ["one_log", "other_log"] (defScope s_let_alike) := ⟨rfl, rfl, rfl, by decide +kernel, rfl, by decide +kernel, by decide +kernel⟩
abbrev s__law_orders : Stmt := tops 39
theorem sc__law_orders : FnScope ["_law_offices", "_law_rows_here", "_law_found", "_law_row", "_law_own", "_law_at", "_law_kept"] ["_law_offices", "_law_rows_here"] (defScope s__law_orders) := ⟨rfl, rfl, rfl, by decide +kernel, rfl, by decide +kernel, by decide +kernel⟩
abbrev s__law_turned : Stmt := tops 40
theorem sc__law_turned : FnScope ["_law_order", "_law_at", "_law_own"] ["_law_order"] (defScope s__law_turned) := ⟨rfl, rfl, rfl, by decide +kernel, rfl, by decide +kernel, by decide +kernel⟩
abbrev s__law_numbers : Stmt := tops 41
theorem sc__law_numbers : FnScope ["_law_thing", "_law_most", "_law_last", "_law_own"] ["_law_thing", "_law_most"] (defScope s__law_numbers) := ⟨rfl, rfl, rfl, by decide +kernel, rfl, by decide +kernel, by decide +kernel⟩
abbrev s__law_is_right : Stmt := tops 42
theorem sc__law_is_right : FnScope ["_law_offices", "_law_rows_here", "_law_log", "_law_got", "_law_pair", "_law_due", "_law_at"] ["_law_offices", "_law_rows_here"] (defScope s__law_is_right) := ⟨rfl, rfl, rfl, by decide +kernel, rfl, by decide +kernel, by decide +kernel⟩
abbrev s__law_finals : Stmt := tops 38
theorem sc__law_finals : FnScope ["_law_offices", "_law_rows_here", "_law_known", "_law_row", "_law_later", "_law_own", "_law_now"] ["_law_offices", "_law_rows_here"] (defScope s__law_finals) := ⟨rfl, rfl, rfl, by decide +kernel, rfl, by decide +kernel, by decide +kernel⟩
abbrev s__law_by_doings : Stmt := tops 43
theorem sc__law_by_doings : FnScope ["_law_offices", "_law_rows_here", "_law_finals_here", "_law_found", "_law_at"] ["_law_offices", "_law_rows_here"] (defScope s__law_by_doings) := ⟨rfl, rfl, rfl, by decide +kernel, rfl, by decide +kernel, by decide +kernel⟩
abbrev s_law : Stmt := tops 44
theorem sc_law : FnScope ["_law_script", "_law_hand_here", "_law_turn", "_law_offices", "_law_rows_here", "_law_at"] ["_law_script"] (defScope s_law) := ⟨rfl, rfl, rfl, by decide +kernel, rfl, by decide +kernel, by decide +kernel⟩
structure Facts (G : GX) : Prop where
  z_abs : G.mg "abs" = none
  z_bool : G.mg "bool" = none
  z_enumerate : G.mg "enumerate" = none
  z_int : G.mg "int" = none
  z_isinstance : G.mg "isinstance" = none
  z_len : G.mg "len" = none
  z_list : G.mg "list" = none
  z_max : G.mg "max" = none
  z_range : G.mg "range" = none
  z_sorted : G.mg "sorted" = none
  z_sum : G.mg "sum" = none
  z_tuple : G.mg "tuple" = none
  c_MOST_OFFICES : ConI G "MOST_OFFICES" 12
  c_MOST_ROWS : ConI G "MOST_ROWS" 60
  f_is_integer : FunF G "is_integer" s_is_integer
  f_is_within : FunF G "is_within" s_is_within
  f_is_triple : FunF G "is_triple" s_is_triple
  f_is_flag : FunF G "is_flag" s_is_flag
  f_is_row : FunF G "is_row" s_is_row
  f_first_bad : FunF G "first_bad" s_first_bad
  i_Log : ClsF G "Log" "Log.__init__" s_Log__init
  f_check_row : FunF G "check_row" s_check_row
  f_raw_log : FunF G "raw_log" s_raw_log
  f_without : FunF G "without" s_without
  f_check_loose : FunF G "check_loose" s_check_loose
  f_is_left : FunF G "is_left" s_is_left
  f_cut_of : FunF G "cut_of" s_cut_of
  f_exchanged_at : FunF G "exchanged_at" s_exchanged_at
  f_order_led : FunF G "order_led" s_order_led
  f_orders : FunF G "orders" s_orders
  f_needless : FunF G "needless" s_needless
  f__law_hand : FunF G "_law_hand" s__law_hand
  f__law_draw : FunF G "_law_draw" s__law_draw
  f__law_rows : FunF G "_law_rows" s__law_rows
  f_check_offices : FunF G "check_offices" s_check_offices
  f_check_both : FunF G "check_both" s_check_both
  f_let_alike : FunF G "let_alike" s_let_alike
  f__law_orders : FunF G "_law_orders" s__law_orders
  f__law_turned : FunF G "_law_turned" s__law_turned
  f__law_numbers : FunF G "_law_numbers" s__law_numbers
  f__law_is_right : FunF G "_law_is_right" s__law_is_right
  f__law_finals : FunF G "_law_finals" s__law_finals
  f__law_by_doings : FunF G "_law_by_doings" s__law_by_doings
  f_law : FunF G "law" s_law
  x_NoRow : RaiF G "NoRow"
  x_OtherOffices : RaiF G "OtherOffices"
  a_Log : ClsA G "Log" ["offices", "rows"]

section
variable {P : Program} {w : World} {G : GX} {base : Heap}
theorem ok_is_integer (T : Facts G)  : FnA G P w base 1 "is_integer" 1 m_is_integer := by
  rw [m_is_integer_eq]
  obtain ⟨f, fd, F, hm⟩ := T.f_is_integer
  exact FnA.of F sc_is_integer hm (F.binds (ps := ["thing"]) fun _ _ _ _ _ _ us hl => match us, hl with | [_], _ => rfl) (fun cdv A outer s H E c =>
    (ass_one (as_ret (ae_and (ae_isi "int" T.z_isinstance (ae_var 0) (hmx := T.z_int)) (ae_one (ae_not (ae_isi "bool" T.z_isinstance (ae_var 0) (hmx := T.z_bool))))))))

theorem ok_is_within (T : Facts G) (F_is_integer : FnA G P w base 1 "is_integer" 1 m_is_integer) : FnA G P w base 2 "is_within" 3 m_is_within := by
  rw [m_is_within_eq]
  obtain ⟨f, fd, F, hm⟩ := T.f_is_within
  exact FnA.of F sc_is_within hm (F.binds (ps := ["thing", "least", "most"]) fun _ _ _ _ _ _ us hl => match us, hl with | [_, _, _], _ => rfl) (fun cdv A outer s H E c =>
    (ass_one (as_ret (ae_and (ae_call F_is_integer c (aa_cons (ae_var 0) aa_nil) (lCons_len lNil_len)) (ae_one (ae_leLe (ae_var 1) (ae_var 0) (ae_var 2)))))))

theorem ok_is_triple (T : Facts G)  : FnA G P w base 1 "is_triple" 1 m_is_triple := by
  rw [m_is_triple_eq]
  obtain ⟨f, fd, F, hm⟩ := T.f_is_triple
  exact FnA.of F sc_is_triple hm (F.binds (ps := ["thing"]) fun _ _ _ _ _ _ us hl => match us, hl with | [_], _ => rfl) (fun cdv A outer s H E c =>
    (ass_one (as_ret (ae_and (ae_isi "tuple" T.z_isinstance (ae_var 0) (hmx := T.z_tuple)) (ae_one (ae_eq c (ae_len T.z_len (aq_ofE (ae_var 0))) ae_int))))))

theorem ok_is_flag (T : Facts G)  : FnA G P w base 1 "is_flag" 1 m_is_flag := by
  rw [m_is_flag_eq]
  obtain ⟨f, fd, F, hm⟩ := T.f_is_flag
  exact FnA.of F sc_is_flag hm (F.binds (ps := ["thing"]) fun _ _ _ _ _ _ us hl => match us, hl with | [_], _ => rfl) (fun cdv A outer s H E c =>
    (ass_one (as_ret (ae_isi "bool" T.z_isinstance (ae_var 0) (hmx := T.z_bool)))))

theorem ok_is_row (T : Facts G) (F_is_flag : FnA G P w base 1 "is_flag" 1 m_is_flag) (F_is_triple : FnA G P w base 1 "is_triple" 1 m_is_triple) (F_is_within : FnA G P w base 2 "is_within" 3 m_is_within) : FnA G P w base 3 "is_row" 2 m_is_row := by
  rw [m_is_row_eq]
  obtain ⟨f, fd, F, hm⟩ := T.f_is_row
  exact FnA.of F sc_is_row hm (F.binds (ps := ["offices", "thing"]) fun _ _ _ _ _ _ us hl => match us, hl with | [_, _], _ => rfl) (fun cdv A outer s H E c =>
    (ass_cons (as_if (at_w (aw_or (at_not (at_val (ae_call F_is_triple c (aa_cons (ae_var 1) aa_nil) (lCons_len lNil_len)))) (aw_or (at_not (at_val (ae_call F_is_within c (aa_cons (ae_get (ae_var 1) ae_int) (aa_cons ae_int (aa_cons (ae_sub (ae_var 0) ae_int) aa_nil))) (lCons_len (lCons_len (lCons_len lNil_len)))))) (aw_or1 (at_not (at_val (ae_call F_is_within c (aa_cons (ae_get (ae_var 1) ae_int) (aa_cons ae_int (aa_cons (ae_sub (ae_var 0) ae_int) aa_nil))) (lCons_len (lCons_len (lCons_len lNil_len)))))))))) (ass_one (as_ret ae_bl)) ass_nil)
    (ass_one (as_ret (ae_and (ae_eq c (ae_abs T.z_abs (aa_cons (ae_sub (ae_get (ae_var 1) ae_int) (ae_get (ae_var 1) ae_int)) aa_nil)) ae_int) (ae_one (ae_call F_is_flag c (aa_cons (ae_get (ae_var 1) ae_int) aa_nil) (lCons_len lNil_len))))))))

theorem ok_first_bad (T : Facts G) (F_is_row : FnA G P w base 3 "is_row" 2 m_is_row) : FnA G P w base 4 "first_bad" 2 m_first_bad := by
  rw [m_first_bad_eq]
  obtain ⟨f, fd, F, hm⟩ := T.f_first_bad
  exact FnA.of F sc_first_bad hm (F.binds (ps := ["offices", "rows"]) fun _ _ _ _ _ _ us hl => match us, hl with | [_, _], _ => rfl) (fun cdv A outer s H E c =>
    (ass_cons (as_for c (ai_enum T.z_enumerate (aa_cons (ae_var 1) aa_nil)) (ag_tup c.calm (ags_cons (ag_name c.nd 2) (ags_cons (ag_name c.nd 3) ags_nil))) (ass_one (as_if (at_not (at_val (ae_call F_is_row c (aa_cons (ae_var 0) (aa_cons (ae_var 3) aa_nil)) (lCons_len (lCons_len lNil_len))))) (ass_one (as_ret (ae_var 2))) ass_nil)))
    (ass_one (as_ret ae_non))))

theorem ok_Log__init (T : Facts G) (F_first_bad : FnA G P w base 4 "first_bad" 2 m_first_bad) (F_is_within : FnA G P w base 2 "is_within" 3 m_is_within) : MkA G P w base 5 "Log" 3 m_Log__init := by
  rw [m_Log__init_eq]
  exact MkA.of T.i_Log sc_Log__init (fun f fd F => F.binds (ps := ["self", "offices", "rows"]) fun _ _ _ _ _ _ us hl => match us, hl with | [_, _, _], _ => rfl) (fun f cdv A outer s H E c =>
    (ass_cons (as_if (at_not (at_val (ae_call F_is_within c (aa_cons (ae_var 1) (aa_cons ae_int (aa_cons (ae_conI T.c_MOST_OFFICES) aa_nil))) (lCons_len (lCons_len (lCons_len lNil_len)))))) (ass_one (as_never _)) ass_nil)
    (ass_cons (as_if (at_w (aw_or (at_not (at_val (ae_isi "tuple" T.z_isinstance (ae_var 2) (hmx := T.z_tuple)))) (aw_or1 (at_gt (ae_len T.z_len (aq_ofE (ae_var 2))) (ae_conI T.c_MOST_ROWS))))) (ass_one (as_never _)) ass_nil)
    (ass_cons (as_set c 3 (ae_call F_first_bad c (aa_cons (ae_var 1) (aa_cons (ae_var 2) aa_nil)) (lCons_len (lCons_len lNil_len))))
    (ass_cons (as_if (at_notN (ae_var 3)) (ass_one (as_never _)) ass_nil)
    (ass_cons (as_fld ["Log"] (ae_var 0) (ae_var 1) (cls1 T.a_Log))
    (ass_one (as_fld ["Log"] (ae_var 0) (ae_var 2) (cls1 T.a_Log)))))))))

theorem ok_check_row (T : Facts G) (F_is_within : FnA G P w base 2 "is_within" 3 m_is_within) : FnA G P w base 3 "check_row" 2 m_check_row := by
  rw [m_check_row_eq]
  obtain ⟨f, fd, F, hm⟩ := T.f_check_row
  exact FnA.of F sc_check_row hm (F.binds (ps := ["log", "row"]) fun _ _ _ _ _ _ us hl => match us, hl with | [_, _], _ => rfl) (fun cdv A outer s H E c =>
    (ass_one (as_if (at_not (at_val (ae_call F_is_within c (aa_cons (ae_var 1) (aa_cons ae_int (aa_cons (ae_sub (ae_len T.z_len (aq_ofE (ae_fld ["Log"] (ae_var 0) (cls1 T.a_Log)))) ae_int) aa_nil))) (lCons_len (lCons_len (lCons_len lNil_len)))))) (ass_one (as_raise c T.x_NoRow)) ass_nil)))

theorem ok_raw_log (T : Facts G) (F_Log__init : MkA G P w base 5 "Log" 3 m_Log__init) : FnA G P w base 7 "raw_log" 2 m_raw_log := by
  rw [m_raw_log_eq]
  obtain ⟨f, fd, F, hm⟩ := T.f_raw_log
  exact FnA.of F sc_raw_log hm (F.binds (ps := ["offices", "rows"]) fun _ _ _ _ _ _ us hl => match us, hl with | [_, _], _ => rfl) (fun cdv A outer s H E c =>
    (ass_cons (as_set c 2 (ae_make F_Log__init c (aa_cons (ae_var 0) (aa_cons (ae_tup aa_nil) aa_nil)) (lCons_len (lCons_len lNil_len))))
    (ass_cons (as_fld ["Log"] (ae_var 2) (ae_tuple T.z_tuple (aq_ofE (ae_var 1))) (cls1 T.a_Log))
    (ass_one (as_ret (ae_var 2))))))

theorem ok_without (T : Facts G) (F_check_row : FnA G P w base 3 "check_row" 2 m_check_row) (F_raw_log : FnA G P w base 7 "raw_log" 2 m_raw_log) : FnA G P w base 8 "without" 2 m_without := by
  rw [m_without_eq]
  obtain ⟨f, fd, F, hm⟩ := T.f_without
  exact FnA.of F sc_without hm (F.binds (ps := ["log", "row"]) fun _ _ _ _ _ _ us hl => match us, hl with | [_, _], _ => rfl) (fun cdv A outer s H E c =>
    (ass_cons (as_expr (ae_call F_check_row c (aa_cons (ae_var 0) (aa_cons (ae_var 1) aa_nil)) (lCons_len (lCons_len lNil_len))))
    (ass_one (as_ret (ae_call F_raw_log c (aa_cons (ae_fld ["Log"] (ae_var 0) (cls1 T.a_Log)) (aa_cons (ae_add (ae_slT (ae_fld ["Log"] (ae_var 0) (cls1 T.a_Log)) ao_none (ao_some (ae_var 1))) (ae_slT (ae_fld ["Log"] (ae_var 0) (cls1 T.a_Log)) (ao_some (ae_add (ae_var 1) ae_int)) ao_none)) aa_nil)) (lCons_len (lCons_len lNil_len)))))))

theorem ok_check_loose (T : Facts G)  : FnA G P w base 1 "check_loose" 1 m_check_loose := by
  rw [m_check_loose_eq]
  obtain ⟨f, fd, F, hm⟩ := T.f_check_loose
  exact FnA.of F sc_check_loose hm (F.binds (ps := ["log"]) fun _ _ _ _ _ _ us hl => match us, hl with | [_], _ => rfl) (fun cdv A outer s H E c =>
    (ass_one (as_for c (ai_enum T.z_enumerate (aa_cons (ae_fld ["Log"] (ae_var 0) (cls1 T.a_Log)) aa_nil)) (ag_tup c.calm (ags_cons (ag_name c.nd 1) (ags_cons (ag_name c.nd 2) ags_nil))) (ass_one (as_if (at_val (ae_get (ae_var 2) ae_int)) (ass_one (as_never _)) ass_nil)))))

theorem ok_is_left (T : Facts G)  : FnA G P w base 1 "is_left" 1 m_is_left := by
  rw [m_is_left_eq]
  obtain ⟨f, fd, F, hm⟩ := T.f_is_left
  exact FnA.of F sc_is_left hm (F.binds (ps := ["row"]) fun _ _ _ _ _ _ us hl => match us, hl with | [_], _ => rfl) (fun cdv A outer s H E c =>
    (ass_one (as_ret (ae_gt (ae_get (ae_var 0) ae_int) (ae_get (ae_var 0) ae_int)))))

theorem ok_cut_of (T : Facts G)  : FnA G P w base 1 "cut_of" 1 m_cut_of := by
  rw [m_cut_of_eq]
  obtain ⟨f, fd, F, hm⟩ := T.f_cut_of
  exact FnA.of F sc_cut_of hm (F.binds (ps := ["row"]) fun _ _ _ _ _ _ us hl => match us, hl with | [_], _ => rfl) (fun cdv A outer s H E c =>
    (ass_one (as_ret (ae_max2 c T.z_max (aa_cons (ae_get (ae_var 0) ae_int) (aa_cons (ae_get (ae_var 0) ae_int) aa_nil))))))

theorem ok_exchanged_at (T : Facts G)  : FnA G P w base 1 "exchanged_at" 2 m_exchanged_at := by
  rw [m_exchanged_at_eq]
  obtain ⟨f, fd, F, hm⟩ := T.f_exchanged_at
  exact FnA.of F sc_exchanged_at hm (F.binds (ps := ["order", "cut"]) fun _ _ _ _ _ _ us hl => match us, hl with | [_, _], _ => rfl) (fun cdv A outer s H E c =>
    (ass_cons (as_if (at_lt (ae_get (ae_var 0) (ae_var 1)) (ae_get (ae_var 0) (ae_sub (ae_var 1) ae_int))) (ass_one (as_ret (ae_var 0))) ass_nil)
    (ass_one (as_ret (ae_add (ae_add (ae_slT (ae_var 0) ao_none (ao_some (ae_sub (ae_var 1) ae_int))) (ae_tup (aa_cons (ae_get (ae_var 0) (ae_var 1)) (aa_cons (ae_get (ae_var 0) (ae_sub (ae_var 1) ae_int)) aa_nil)))) (ae_slT (ae_var 0) (ao_some (ae_add (ae_var 1) ae_int)) ao_none))))))

theorem ok_order_led (T : Facts G) (F_cut_of : FnA G P w base 1 "cut_of" 1 m_cut_of) (F_exchanged_at : FnA G P w base 1 "exchanged_at" 2 m_exchanged_at) (F_is_left : FnA G P w base 1 "is_left" 1 m_is_left) : FnA G P w base 2 "order_led" 3 m_order_led := by
  rw [m_order_led_eq]
  obtain ⟨f, fd, F, hm⟩ := T.f_order_led
  exact FnA.of F sc_order_led hm (F.binds (ps := ["order", "rows", "is_of_left"]) fun _ _ _ _ _ _ us hl => match us, hl with | [_, _, _], _ => rfl) (fun cdv A outer s H E c =>
    (ass_cons (as_set c 3 (ae_var 0))
    (ass_cons (as_for c (ai_seq (ae_var 1)) (ag_name c.nd 4) (ass_one (as_if (at_eq c (ae_call F_is_left c (aa_cons (ae_var 4) aa_nil) (lCons_len lNil_len)) (ae_var 2)) (ass_one (as_set c 3 (ae_call F_exchanged_at c (aa_cons (ae_var 3) (aa_cons (ae_call F_cut_of c (aa_cons (ae_var 4) aa_nil) (lCons_len lNil_len)) aa_nil)) (lCons_len (lCons_len lNil_len))))) ass_nil)))
    (ass_one (as_ret (ae_var 3))))))

theorem ok_orders (T : Facts G) (F_order_led : FnA G P w base 2 "order_led" 3 m_order_led) : FnA G P w base 3 "orders" 1 m_orders := by
  rw [m_orders_eq]
  obtain ⟨f, fd, F, hm⟩ := T.f_orders
  exact FnA.of F sc_orders hm (F.binds (ps := ["log"]) fun _ _ _ _ _ _ us hl => match us, hl with | [_], _ => rfl) (fun cdv A outer s H E c =>
    (ass_cons (as_set c 1 (ae_tupRng1 c T.z_tuple T.z_range (ae_fld ["Log"] (ae_var 0) (cls1 T.a_Log))))
    (ass_one (as_ret (ae_tup (aa_cons (ae_call F_order_led c (aa_cons (ae_var 1) (aa_cons (ae_fld ["Log"] (ae_var 0) (cls1 T.a_Log)) (aa_cons ae_bl aa_nil))) (lCons_len (lCons_len (lCons_len lNil_len)))) (aa_cons (ae_call F_order_led c (aa_cons (ae_var 1) (aa_cons (ae_fld ["Log"] (ae_var 0) (cls1 T.a_Log)) (aa_cons ae_bl aa_nil))) (lCons_len (lCons_len (lCons_len lNil_len)))) aa_nil)))))))

theorem ok_needless (T : Facts G) (F_check_loose : FnA G P w base 1 "check_loose" 1 m_check_loose) (F_orders : FnA G P w base 3 "orders" 1 m_orders) (F_without : FnA G P w base 8 "without" 2 m_without) : FnA G P w base 9 "needless" 1 m_needless := by
  rw [m_needless_eq]
  obtain ⟨f, fd, F, hm⟩ := T.f_needless
  exact FnA.of F sc_needless hm (F.binds (ps := ["log"]) fun _ _ _ _ _ _ us hl => match us, hl with | [_], _ => rfl) (fun cdv A outer s H E c =>
    (ass_cons (as_expr (ae_call F_check_loose c (aa_cons (ae_var 0) aa_nil) (lCons_len lNil_len)))
    (ass_cons (as_set c 1 (ae_call F_orders c (aa_cons (ae_var 0) aa_nil) (lCons_len lNil_len)))
    (ass_one (as_ret (ae_tuple T.z_tuple (aq_ofL (al_comp c (ai_range1 T.z_range (aa_cons (ae_len T.z_len (aq_ofE (ae_fld ["Log"] (ae_var 0) (cls1 T.a_Log)))) aa_nil)) [("row", 2)] (blkOk_by (N := ["log", "due", "row"]) (sc := (defScope s_needless)) (by decide +kernel)) (fun _ _ _ _ _ => (ag_name (Ctx.blk c _ _ _ _ _).nd 2)) (fun _ _ _ _ _ => (ats_one (at_eq (Ctx.blk c _ _ _ _ _) (ae_call F_orders (Ctx.blk c _ _ _ _ _) (aa_cons (ae_call F_without (Ctx.blk c _ _ _ _ _) (aa_cons (ae_var 0) (aa_cons (ae_var 2) aa_nil)) (lCons_len (lCons_len lNil_len))) aa_nil) (lCons_len lNil_len)) (ae_var 1)))) (fun _ _ _ _ _ => (ae_var 2))))))))))

theorem ok__law_hand (T : Facts G)  : FnA G P w base 1 "_law_hand" 1 m__law_hand := by
  rw [m__law_hand_eq]
  obtain ⟨f, fd, F, hm⟩ := T.f__law_hand
  exact FnA.of F sc__law_hand hm (F.binds (ps := ["_law_script"]) fun _ _ _ _ _ _ us hl => match us, hl with | [_], _ => rfl) (fun cdv A outer s H E c =>
    (ass_cons (as_setLc c 1 (ai_lst (al_slL (ae_var 0) ao_none (ao_some ae_int))) [("_law_cell", 2)] (blkOk_by (N := ["_law_script", "_law_cells", "_law_cell"]) (sc := (defScope s__law_hand)) (by decide +kernel)) (fun _ _ _ _ _ => (ag_name (Ctx.blk c _ _ _ _ _).nd 2)) (fun _ _ _ _ _ => ats_nil) (fun _ _ _ _ _ => (ae_abs T.z_abs (aa_cons (ae_int1 T.z_int (aa_cons (ae_var 2) aa_nil)) aa_nil))) (sw_true rfl rfl rfl (by decide +kernel)))
    (ass_one (as_ret (ae_ofL (al_lst (aa_cons (ae_var 1) (aa_cons ae_int (aa_cons ae_int (aa_cons (ae_add ae_int (ae_len T.z_len (aq_ofE (ae_var 1)))) (aa_cons ae_int aa_nil)))))))))))

theorem ok__law_draw (T : Facts G)  : FnA G P w base 1 "_law_draw" 2 m__law_draw := by
  rw [m__law_draw_eq]
  obtain ⟨f, fd, F, hm⟩ := T.f__law_draw
  exact FnA.of F sc__law_draw hm (F.binds (ps := ["_law_hand_here", "_law_many"]) fun _ _ _ _ _ _ us hl => match us, hl with | [_, _], _ => rfl) (fun cdv A outer s H E c =>
    (ass_cons (as_if (at_w (aw_and (at_eq c (ae_get (ae_var 0) ae_int) ae_int) (aw_and1 (at_lt (ae_get (ae_var 0) ae_int) (ae_len T.z_len (aq_ofE (ae_get (ae_var 0) ae_int))))))) (ass_cons (as_set c 3 (ae_get (ae_get (ae_var 0) ae_int) (ae_get (ae_var 0) ae_int)))
    (ass_cons (as_sub (ae_var 0) ae_int (ae_add (ae_get (ae_var 0) ae_int) ae_int))
    (ass_cons (as_sub (ae_var 0) ae_int (ae_mod (ae_int1 T.z_int (aa_cons (ae_add (ae_add (ae_mul (ae_get (ae_var 0) ae_int) ae_int) (ae_var 3)) ae_int) aa_nil)) ae_int))
    (ass_one (as_if (at_ge (ae_var 3) (ae_pow ae_int ae_int)) (ass_one (as_sub (ae_var 0) ae_int (ae_var 3))) ass_nil))))) ass_nil)
    (ass_cons (as_if (at_gt (ae_get (ae_var 0) ae_int) ae_int) (ass_cons (as_set c 4 (ae_mod (ae_int1 T.z_int (aa_cons (ae_get (ae_var 0) ae_int) aa_nil)) (ae_var 1)))
    (ass_cons (as_sub (ae_var 0) ae_int (ae_fdiv (ae_get (ae_var 0) ae_int) (ae_var 1)))
    (ass_one (as_ret (ae_var 4))))) ass_nil)
    (ass_cons (as_sub (ae_var 0) ae_int (ae_add (ae_get (ae_var 0) ae_int) ae_int))
    (ass_cons (as_set c 2 (ae_mod (ae_int1 T.z_int (aa_cons (ae_mul (ae_int1 T.z_int (aa_cons (ae_add (ae_get (ae_var 0) ae_int) (ae_mul ae_int (ae_get (ae_var 0) ae_int))) aa_nil)) ae_int) aa_nil)) ae_int))
    (ass_cons (as_set c 2 (ae_mod (ae_int1 T.z_int (aa_cons (ae_mul (ae_var 2) (ae_add (ae_fdiv (ae_var 2) ae_int) ae_int)) aa_nil)) ae_int))
    (ass_cons (as_set c 2 (ae_mod (ae_int1 T.z_int (aa_cons (ae_mul (ae_var 2) (ae_add (ae_fdiv (ae_var 2) ae_int) ae_int)) aa_nil)) ae_int))
    (ass_one (as_ret (ae_mod (ae_int1 T.z_int (aa_cons (ae_fdiv (ae_var 2) ae_int) aa_nil)) (ae_var 1)))))))))))

theorem ok__law_rows (T : Facts G) (F__law_draw : FnA G P w base 1 "_law_draw" 2 m__law_draw) : FnA G P w base 2 "_law_rows" 4 m__law_rows := by
  rw [m__law_rows_eq]
  obtain ⟨f, fd, F, hm⟩ := T.f__law_rows
  exact FnA.of F sc__law_rows hm (F.binds (ps := ["_law_hand_here", "_law_offices", "_law_most", "_law_share"]) fun _ _ _ _ _ _ us hl => match us, hl with | [_, _, _, _], _ => rfl) (fun cdv A outer s H E c =>
    (ass_cons (as_if (at_eq c (ae_var 1) ae_int) (ass_one (as_ret (ae_tup aa_nil))) ass_nil)
    (ass_cons (as_set c 4 (ae_ofL (al_lst aa_nil)))
    (ass_cons (as_for c (ai_range1 T.z_range (aa_cons (ae_call F__law_draw c (aa_cons (ae_var 0) (aa_cons (ae_add (ae_var 2) ae_int) aa_nil)) (lCons_len (lCons_len lNil_len))) aa_nil)) (ag_name c.nd 5) (ass_cons (as_set c 6 (ae_call F__law_draw c (aa_cons (ae_var 0) (aa_cons (ae_sub (ae_var 1) ae_int) aa_nil)) (lCons_len (lCons_len lNil_len))))
    (ass_cons (as_set c 7 (ae_get (ae_ofL (al_lst (aa_cons (ae_tup (aa_cons (ae_var 6) (aa_cons (ae_add (ae_var 6) ae_int) aa_nil))) (aa_cons (ae_tup (aa_cons (ae_add (ae_var 6) ae_int) (aa_cons (ae_var 6) aa_nil))) aa_nil)))) (ae_call F__law_draw c (aa_cons (ae_var 0) (aa_cons ae_int aa_nil)) (lCons_len (lCons_len lNil_len)))))
    (ass_one (as_expr (ae_append (ae_var 4) (aa_cons (ae_add (ae_var 7) (ae_tup (aa_cons (ae_lt (ae_call F__law_draw c (aa_cons (ae_var 0) (aa_cons ae_int aa_nil)) (lCons_len (lCons_len lNil_len))) (ae_var 3)) aa_nil))) aa_nil)))))))
    (ass_one (as_ret (ae_tuple T.z_tuple (aq_ofE (ae_var 4)))))))))

theorem ok_check_offices (T : Facts G)  : FnA G P w base 1 "check_offices" 2 m_check_offices := by
  rw [m_check_offices_eq]
  obtain ⟨f, fd, F, hm⟩ := T.f_check_offices
  exact FnA.of F sc_check_offices hm (F.binds (ps := ["one_log", "other_log"]) fun _ _ _ _ _ _ us hl => match us, hl with | [_, _], _ => rfl) (fun cdv A outer s H E c =>
    (ass_one (as_if (at_ne c (ae_fld ["Log"] (ae_var 0) (cls1 T.a_Log)) (ae_fld ["Log"] (ae_var 1) (cls1 T.a_Log))) (ass_one (as_raise c T.x_OtherOffices)) ass_nil)))

theorem ok_check_both (T : Facts G) (F_check_loose : FnA G P w base 1 "check_loose" 1 m_check_loose) (F_check_offices : FnA G P w base 1 "check_offices" 2 m_check_offices) : FnA G P w base 2 "check_both" 2 m_check_both := by
  rw [m_check_both_eq]
  obtain ⟨f, fd, F, hm⟩ := T.f_check_both
  exact FnA.of F sc_check_both hm (F.binds (ps := ["one_log", "other_log"]) fun _ _ _ _ _ _ us hl => match us, hl with | [_, _], _ => rfl) (fun cdv A outer s H E c =>
    (ass_cons (as_expr (ae_call F_check_offices c (aa_cons (ae_var 0) (aa_cons (ae_var 1) aa_nil)) (lCons_len (lCons_len lNil_len))))
    (ass_cons (as_expr (ae_call F_check_loose c (aa_cons (ae_var 0) aa_nil) (lCons_len lNil_len)))
    (ass_one (as_expr (ae_call F_check_loose c (aa_cons (ae_var 1) aa_nil) (lCons_len lNil_len)))))))

theorem ok_let_alike (T : Facts G) (F_check_both : FnA G P w base 2 "check_both" 2 m_check_both) (F_orders : FnA G P w base 3 "orders" 1 m_orders) : FnA G P w base 4 "let_alike" 2 m_let_alike := by
  rw [m_let_alike_eq]
  obtain ⟨f, fd, F, hm⟩ := T.f_let_alike
  exact FnA.of F sc_let_alike hm (F.binds (ps := ["one_log", "other_log"]) fun _ _ _ _ _ _ us hl => match us, hl with | [_, _], _ => rfl) (fun cdv A outer s H E c =>
    (ass_cons (as_expr (ae_call F_check_both c (aa_cons (ae_var 0) (aa_cons (ae_var 1) aa_nil)) (lCons_len (lCons_len lNil_len))))
    (ass_one (as_ret (ae_eq c (ae_call F_orders c (aa_cons (ae_var 0) aa_nil) (lCons_len lNil_len)) (ae_call F_orders c (aa_cons (ae_var 1) aa_nil) (lCons_len lNil_len)))))))

theorem ok__law_orders (T : Facts G)  : FnA G P w base 1 "_law_orders" 2 m__law_orders := by
  rw [m__law_orders_eq]
  obtain ⟨f, fd, F, hm⟩ := T.f__law_orders
  exact FnA.of F sc__law_orders hm (F.binds (ps := ["_law_offices", "_law_rows_here"]) fun _ _ _ _ _ _ us hl => match us, hl with | [_, _], _ => rfl) (fun cdv A outer s H E c =>
    (ass_cons (as_set c 2 (ae_ofL (al_lst (aa_cons (ae_ofL (al_listRng1 c T.z_list T.z_range (ae_var 0))) (aa_cons (ae_ofL (al_listRng1 c T.z_list T.z_range (ae_var 0))) aa_nil)))))
    (ass_cons (as_for c (ai_seq (ae_var 1)) (ag_name c.nd 3) (ass_cons (as_set c 4 (ae_get (ae_var 2) (ae_int1 T.z_int (aa_cons (ae_lt (ae_get (ae_var 3) ae_int) (ae_get (ae_var 3) ae_int)) aa_nil))))
    (ass_cons (as_set c 5 (ae_max2 c T.z_max (aa_cons (ae_get (ae_var 3) ae_int) (aa_cons (ae_get (ae_var 3) ae_int) aa_nil))))
    (ass_one (as_if (at_gt (ae_get (ae_var 4) (ae_var 5)) (ae_get (ae_var 4) (ae_sub (ae_var 5) ae_int))) (ass_cons (as_set c 6 (ae_get (ae_var 4) (ae_var 5)))
    (ass_cons (as_sub (ae_var 4) (ae_var 5) (ae_get (ae_var 4) (ae_sub (ae_var 5) ae_int)))
    (ass_one (as_sub (ae_var 4) (ae_sub (ae_var 5) ae_int) (ae_var 6))))) ass_nil)))))
    (ass_one (as_ret (ae_tup (aa_cons (ae_tuple T.z_tuple (aq_ofE (ae_get (ae_var 2) ae_int))) (aa_cons (ae_tuple T.z_tuple (aq_ofE (ae_get (ae_var 2) ae_int))) aa_nil))))))))

theorem ok__law_turned (T : Facts G)  : FnA G P w base 1 "_law_turned" 1 m__law_turned := by
  rw [m__law_turned_eq]
  obtain ⟨f, fd, F, hm⟩ := T.f__law_turned
  exact FnA.of F sc__law_turned hm (F.binds (ps := ["_law_order"]) fun _ _ _ _ _ _ us hl => match us, hl with | [_], _ => rfl) (fun cdv A outer s H E c =>
    (ass_one (as_ret (ae_sum c T.z_sum (am_ofL (al_comp c (ai_range1 T.z_range (aa_cons (ae_len T.z_len (aq_ofE (ae_var 0))) aa_nil)) [("_law_at", 1)] (blkOk_by (N := ["_law_order", "_law_at", "_law_own"]) (sc := (defScope s__law_turned)) (by decide +kernel)) (fun _ _ _ _ _ => (ag_name (Ctx.blk c _ _ _ _ _).nd 1)) (fun _ _ _ _ _ => ats_nil) (fun _ _ _ _ _ => (ae_len T.z_len (aq_ofL (al_comp (Ctx.blk c _ _ _ _ _) (ai_seq (ae_slT (ae_var 0) (ao_some (ae_add (ae_var 1) ae_int)) ao_none)) [("_law_own", 2)] (blkOk_by (N := ["_law_order", "_law_at", "_law_own"]) (sc := (relS _ (defScope s__law_turned))) (by decide +kernel)) (fun _ _ _ _ _ => (ag_name (Ctx.blk (Ctx.blk c _ _ _ _ _) _ _ _ _ _).nd 2)) (fun _ _ _ _ _ => (ats_one (at_lt (ae_var 2) (ae_get (ae_var 0) (ae_var 1))))) (fun _ _ _ _ _ => (ae_var 2))))))))))))

theorem ok__law_numbers (T : Facts G)  : FnA G P w base 1 "_law_numbers" 2 m__law_numbers := by
  rw [m__law_numbers_eq]
  obtain ⟨f, fd, F, hm⟩ := T.f__law_numbers
  exact FnA.of F sc__law_numbers hm (F.binds (ps := ["_law_thing", "_law_most"]) fun _ _ _ _ _ _ us hl => match us, hl with | [_, _], _ => rfl) (fun cdv A outer s H E c =>
    (ass_cons (as_if (at_not (at_val (ae_isi "tuple" T.z_isinstance (ae_var 0) (hmx := T.z_tuple)))) (ass_one (as_ret ae_bl)) ass_nil)
    (ass_cons (as_set c 2 (ae_neg ae_int))
    (ass_cons (as_for c (ai_seq (ae_var 0)) (ag_name c.nd 3) (ass_cons (as_if (at_w (aw_or (at_not (at_val (ae_isi "int" T.z_isinstance (ae_var 3) (hmx := T.z_int)))) (aw_or (at_val (ae_isi "bool" T.z_isinstance (ae_var 3) (hmx := T.z_bool))) (aw_or (at_le (ae_var 3) (ae_var 2)) (aw_or1 (at_ge (ae_var 3) (ae_var 1))))))) (ass_one (as_ret ae_bl)) ass_nil)
    (ass_one (as_set c 2 (ae_var 3)))))
    (ass_one (as_ret ae_bl))))))

theorem ok__law_is_right (T : Facts G) (F_Log__init : MkA G P w base 5 "Log" 3 m_Log__init) (F__law_numbers : FnA G P w base 1 "_law_numbers" 2 m__law_numbers) (F__law_orders : FnA G P w base 1 "_law_orders" 2 m__law_orders) (F__law_turned : FnA G P w base 1 "_law_turned" 1 m__law_turned) (F_let_alike : FnA G P w base 4 "let_alike" 2 m_let_alike) (F_needless : FnA G P w base 9 "needless" 1 m_needless) (F_without : FnA G P w base 8 "without" 2 m_without) : FnA G P w base 10 "_law_is_right" 2 m__law_is_right := by
  rw [m__law_is_right_eq]
  obtain ⟨f, fd, F, hm⟩ := T.f__law_is_right
  exact FnA.of F sc__law_is_right hm (F.binds (ps := ["_law_offices", "_law_rows_here"]) fun _ _ _ _ _ _ us hl => match us, hl with | [_, _], _ => rfl) (fun cdv A outer s H E c =>
    (ass_cons (as_set c 2 (ae_make F_Log__init c (aa_cons (ae_var 0) (aa_cons (ae_var 1) aa_nil)) (lCons_len (lCons_len lNil_len))))
    (ass_cons (as_set c 3 (ae_call F_needless c (aa_cons (ae_var 2) aa_nil) (lCons_len lNil_len)))
    (ass_cons (as_set c 4 (ae_call F__law_orders c (aa_cons (ae_var 0) (aa_cons (ae_var 1) aa_nil)) (lCons_len (lCons_len lNil_len))))
    (ass_cons (as_set c 5 (ae_ofL (al_lst aa_nil)))
    (ass_cons (as_for c (ai_range1 T.z_range (aa_cons (ae_len T.z_len (aq_ofE (ae_var 1))) aa_nil)) (ag_name c.nd 6) (ass_one (as_if (at_eq c (ae_call F__law_orders c (aa_cons (ae_var 0) (aa_cons (ae_add (ae_slT (ae_var 1) ao_none (ao_some (ae_var 6))) (ae_slT (ae_var 1) (ao_some (ae_add (ae_var 6) ae_int)) ao_none)) aa_nil)) (lCons_len (lCons_len lNil_len))) (ae_var 4)) (ass_one (as_expr (ae_append (ae_var 5) (aa_cons (ae_var 6) aa_nil)))) ass_nil)))
    (ass_cons (as_if (at_w (aw_or (at_not (at_val (ae_call F__law_numbers c (aa_cons (ae_var 3) (aa_cons (ae_len T.z_len (aq_ofE (ae_var 1))) aa_nil)) (lCons_len (lCons_len lNil_len))))) (aw_or1 (at_ne c (ae_var 3) (ae_tuple T.z_tuple (aq_ofE (ae_var 5))))))) (ass_one (as_ret ae_bl)) ass_nil)
    (ass_cons (as_if (at_ne c (ae_eq c (ae_var 3) (ae_tup aa_nil)) (ae_eq c (ae_len T.z_len (aq_ofE (ae_var 1))) (ae_add (ae_call F__law_turned c (aa_cons (ae_get (ae_var 4) ae_int) aa_nil) (lCons_len lNil_len)) (ae_call F__law_turned c (aa_cons (ae_get (ae_var 4) ae_int) aa_nil) (lCons_len lNil_len))))) (ass_one (as_ret ae_bl)) ass_nil)
    (ass_cons (as_for c (ai_range1 T.z_range (aa_cons (ae_len T.z_len (aq_ofE (ae_var 1))) aa_nil)) (ag_name c.nd 6) (ass_cons (as_if (at_w (aw_and (at_lt (ae_var 6) ae_int) (aw_and1 (at_ne c (ae_call F_let_alike c (aa_cons (ae_call F_without c (aa_cons (ae_var 2) (aa_cons (ae_var 6) aa_nil)) (lCons_len (lCons_len lNil_len))) (aa_cons (ae_var 2) aa_nil)) (lCons_len (lCons_len lNil_len))) (ae_in2 c (ae_var 6) (ae_var 3)))))) (ass_one (as_ret ae_bl)) ass_nil)
    (ass_one (as_if (at_w (aw_and (at_gt (ae_var 6) ae_int) (aw_and (at_eq c (ae_get (ae_var 1) (ae_var 6)) (ae_get (ae_var 1) (ae_sub (ae_var 6) ae_int))) (aw_and1 (at_w (aw_or (at_nin2 c (ae_var 6) (ae_var 3)) (aw_or1 (at_nin2 c (ae_sub (ae_var 6) ae_int) (ae_var 3))))))))) (ass_one (as_ret ae_bl)) ass_nil))))
    (ass_one (as_ret (ae_eq c (ae_call F_needless c (aa_cons (ae_var 2) aa_nil) (lCons_len lNil_len)) (ae_var 3)))))))))))))

theorem ok__law_finals (T : Facts G)  : FnA G P w base 1 "_law_finals" 2 m__law_finals := by
  rw [m__law_finals_eq]
  obtain ⟨f, fd, F, hm⟩ := T.f__law_finals
  exact FnA.of F sc__law_finals hm (F.binds (ps := ["_law_offices", "_law_rows_here"]) fun _ _ _ _ _ _ us hl => match us, hl with | [_, _], _ => rfl) (fun cdv A outer s H E c =>
    (ass_cons (as_set c 2 (ae_ofL (al_lst (aa_cons (ae_tupRng1 c T.z_tuple T.z_range (ae_var 0)) aa_nil))))
    (ass_cons (as_for c (ai_seq (ae_var 1)) (ag_name c.nd 3) (ass_cons (as_set c 4 ae_dctT)
    (ass_cons (as_for c (ai_seq (ae_var 2)) (ag_name c.nd 5) (ass_cons (as_set c 6 (ae_ofL (al_list T.z_list (aq_ofE (ae_var 5)))))
    (ass_cons (as_sub (ae_var 6) (ae_get (ae_var 3) ae_int) (ae_get (ae_var 5) (ae_get (ae_var 3) ae_int)))
    (ass_cons (as_dput c (ae_var 4) (ae_tuple T.z_tuple (aq_ofE (ae_var 6))) ae_bl)
    (ass_one (as_if (at_not (at_val (ae_get (ae_var 3) ae_int))) (ass_one (as_dput c (ae_var 4) (ae_var 5) ae_bl)) ass_nil))))))
    (ass_one (as_set c 2 (ae_ofL (al_keysT c T.z_list (ae_var 4))))))))
    (ass_one (as_ret (ae_var 2))))))

theorem ok__law_by_doings (T : Facts G) (F__law_finals : FnA G P w base 1 "_law_finals" 2 m__law_finals) : FnA G P w base 2 "_law_by_doings" 2 m__law_by_doings := by
  rw [m__law_by_doings_eq]
  obtain ⟨f, fd, F, hm⟩ := T.f__law_by_doings
  exact FnA.of F sc__law_by_doings hm (F.binds (ps := ["_law_offices", "_law_rows_here"]) fun _ _ _ _ _ _ us hl => match us, hl with | [_, _], _ => rfl) (fun cdv A outer s H E c =>
    (ass_cons (as_set c 2 (ae_ofL (al_sortedTI c T.z_sorted (am_ofL (al_drop (ae_call F__law_finals c (aa_cons (ae_var 0) (aa_cons (ae_var 1) aa_nil)) (lCons_len (lCons_len lNil_len))))))))
    (ass_cons (as_set c 3 (ae_ofL (al_lst aa_nil)))
    (ass_cons (as_for c (ai_range1 T.z_range (aa_cons (ae_len T.z_len (aq_ofE (ae_var 1))) aa_nil)) (ag_name c.nd 4) (ass_one (as_if (at_eq c (ae_ofL (al_sortedTI c T.z_sorted (am_ofL (al_drop (ae_call F__law_finals c (aa_cons (ae_var 0) (aa_cons (ae_add (ae_slT (ae_var 1) ao_none (ao_some (ae_var 4))) (ae_slT (ae_var 1) (ao_some (ae_add (ae_var 4) ae_int)) ao_none)) aa_nil)) (lCons_len (lCons_len lNil_len))))))) (ae_var 2)) (ass_one (as_expr (ae_append (ae_var 3) (aa_cons (ae_var 4) aa_nil)))) ass_nil)))
    (ass_one (as_ret (ae_tuple T.z_tuple (aq_ofE (ae_var 3)))))))))

theorem ok_law (T : Facts G) (F_Log__init : MkA G P w base 5 "Log" 3 m_Log__init) (F__law_by_doings : FnA G P w base 2 "_law_by_doings" 2 m__law_by_doings) (F__law_draw : FnA G P w base 1 "_law_draw" 2 m__law_draw) (F__law_hand : FnA G P w base 1 "_law_hand" 1 m__law_hand) (F__law_is_right : FnA G P w base 10 "_law_is_right" 2 m__law_is_right) (F__law_rows : FnA G P w base 2 "_law_rows" 4 m__law_rows) (F_needless : FnA G P w base 9 "needless" 1 m_needless) : FnA G P w base 11 "law" 1 m_law := by
  rw [m_law_eq]
  obtain ⟨f, fd, F, hm⟩ := T.f_law
  exact FnA.of F sc_law hm (F.binds (ps := ["_law_script"]) fun _ _ _ _ _ _ us hl => match us, hl with | [_], _ => rfl) (fun cdv A outer s H E c =>
    (ass_cons (as_set c 1 (ae_call F__law_hand c (aa_cons (ae_var 0) aa_nil) (lCons_len lNil_len)))
    (ass_cons (as_for c (ai_range1 T.z_range (aa_cons ae_int aa_nil)) (ag_name c.nd 2) (ass_cons (as_set c 3 (ae_get (ae_ofL (al_lst (aa_cons (ae_add ae_int (ae_call F__law_draw c (aa_cons (ae_var 1) (aa_cons ae_int aa_nil)) (lCons_len (lCons_len lNil_len)))) (aa_cons ae_int (aa_cons ae_int aa_nil))))) (ae_var 2)))
    (ass_cons (as_set c 4 (ae_call F__law_rows c (aa_cons (ae_var 1) (aa_cons (ae_var 3) (aa_cons ae_int (aa_cons ae_int aa_nil)))) (lCons_len (lCons_len (lCons_len (lCons_len lNil_len))))))
    (ass_cons (as_if (at_w (aw_or (at_not (at_val (ae_call F__law_is_right c (aa_cons (ae_var 3) (aa_cons (ae_var 4) aa_nil)) (lCons_len (lCons_len lNil_len))))) (aw_or1 (at_ne c (ae_call F_needless c (aa_cons (ae_make F_Log__init c (aa_cons (ae_var 3) (aa_cons (ae_var 4) aa_nil)) (lCons_len (lCons_len lNil_len))) aa_nil) (lCons_len lNil_len)) (ae_call F__law_by_doings c (aa_cons (ae_var 3) (aa_cons (ae_var 4) aa_nil)) (lCons_len (lCons_len lNil_len))))))) (ass_one (as_ret ae_bl)) ass_nil)
    (ass_one (as_if (at_gt (ae_len T.z_len (aq_ofE (ae_var 4))) ae_int) (ass_cons (as_set c 5 (ae_call F__law_draw c (aa_cons (ae_var 1) (aa_cons (ae_len T.z_len (aq_ofE (ae_var 4))) aa_nil)) (lCons_len (lCons_len lNil_len))))
    (ass_one (as_if (at_not (at_val (ae_call F__law_is_right c (aa_cons (ae_var 3) (aa_cons (ae_add (ae_add (ae_slT (ae_var 4) ao_none (ao_some (ae_var 5))) (ae_tup (aa_cons (ae_get (ae_var 4) (ae_var 5)) aa_nil))) (ae_slT (ae_var 4) (ao_some (ae_var 5)) ao_none)) aa_nil)) (lCons_len (lCons_len lNil_len))))) (ass_one (as_ret ae_bl)) ass_nil))) ass_nil))))))
    (ass_cons (as_set c 3 (ae_get (ae_ofL (al_lst (aa_cons (ae_add ae_int (ae_call F__law_draw c (aa_cons (ae_var 1) (aa_cons ae_int aa_nil)) (lCons_len (lCons_len lNil_len)))) (aa_cons ae_int aa_nil)))) (ae_int1 T.z_int (aa_cons (ae_eq c (ae_call F__law_draw c (aa_cons (ae_var 1) (aa_cons ae_int aa_nil)) (lCons_len (lCons_len lNil_len))) ae_int) aa_nil))))
    (ass_one (as_ret (ae_call F__law_is_right c (aa_cons (ae_var 3) (aa_cons (ae_call F__law_rows c (aa_cons (ae_var 1) (aa_cons (ae_var 3) (aa_cons (ae_get (ae_ofL (al_lst (aa_cons ae_int (aa_cons ae_int aa_nil)))) (ae_int1 T.z_int (aa_cons (ae_eq c (ae_var 3) ae_int) aa_nil))) (aa_cons ae_int aa_nil)))) (lCons_len (lCons_len (lCons_len (lCons_len lNil_len))))) aa_nil)) (lCons_len (lCons_len lNil_len)))))))))

end
end TK

set_option Elab.async false
set_option linter.all false
set_option maxRecDepth 100000
set_option maxHeartbeats 4000000
namespace TK
open PySem PySem.Spec
open PyProof.Rows hiding St
open L2
section
variable {P : Program} {w : World} {G : GX} {base : Heap}
theorem okx_law (T : Facts G) {f : Addr} {fd : FuncData} (F : Fun G.K "law" "law" s_law f fd) (F_Log__init : MkA G P w base 5 "Log" 3 m_Log__init) (F__law_by_doings : FnA G P w base 2 "_law_by_doings" 2 m__law_by_doings) (F__law_draw : FnA G P w base 1 "_law_draw" 2 m__law_draw) (F__law_hand : FnA G P w base 1 "_law_hand" 1 m__law_hand) (F__law_is_right : FnA G P w base 10 "_law_is_right" 2 m__law_is_right) (F__law_rows : FnA G P w base 2 "_law_rows" 4 m__law_rows) (F_needless : FnA G P w base 9 "needless" 1 m_needless) : FnOk P w G.K G.mg base (L2.CX P w) 11 f fd ["_law_script"] (spA G m_law 1) := by
  rw [m_law_eq]
  exact FnOk.ofA F sc_law (fun cdv A outer s H E c =>
    (ass_cons (as_set c 1 (ae_call F__law_hand c (aa_cons (ae_var 0) aa_nil) (lCons_len lNil_len)))
    (ass_cons (as_for c (ai_range1 T.z_range (aa_cons ae_int aa_nil)) (ag_name c.nd 2) (ass_cons (as_set c 3 (ae_get (ae_ofL (al_lst (aa_cons (ae_add ae_int (ae_call F__law_draw c (aa_cons (ae_var 1) (aa_cons ae_int aa_nil)) (lCons_len (lCons_len lNil_len)))) (aa_cons ae_int (aa_cons ae_int aa_nil))))) (ae_var 2)))
    (ass_cons (as_set c 4 (ae_call F__law_rows c (aa_cons (ae_var 1) (aa_cons (ae_var 3) (aa_cons ae_int (aa_cons ae_int aa_nil)))) (lCons_len (lCons_len (lCons_len (lCons_len lNil_len))))))
    (ass_cons (as_if (at_w (aw_or (at_not (at_val (ae_call F__law_is_right c (aa_cons (ae_var 3) (aa_cons (ae_var 4) aa_nil)) (lCons_len (lCons_len lNil_len))))) (aw_or1 (at_ne c (ae_call F_needless c (aa_cons (ae_make F_Log__init c (aa_cons (ae_var 3) (aa_cons (ae_var 4) aa_nil)) (lCons_len (lCons_len lNil_len))) aa_nil) (lCons_len lNil_len)) (ae_call F__law_by_doings c (aa_cons (ae_var 3) (aa_cons (ae_var 4) aa_nil)) (lCons_len (lCons_len lNil_len))))))) (ass_one (as_ret ae_bl)) ass_nil)
    (ass_one (as_if (at_gt (ae_len T.z_len (aq_ofE (ae_var 4))) ae_int) (ass_cons (as_set c 5 (ae_call F__law_draw c (aa_cons (ae_var 1) (aa_cons (ae_len T.z_len (aq_ofE (ae_var 4))) aa_nil)) (lCons_len (lCons_len lNil_len))))
    (ass_one (as_if (at_not (at_val (ae_call F__law_is_right c (aa_cons (ae_var 3) (aa_cons (ae_add (ae_add (ae_slT (ae_var 4) ao_none (ao_some (ae_var 5))) (ae_tup (aa_cons (ae_get (ae_var 4) (ae_var 5)) aa_nil))) (ae_slT (ae_var 4) (ao_some (ae_var 5)) ao_none)) aa_nil)) (lCons_len (lCons_len lNil_len))))) (ass_one (as_ret ae_bl)) ass_nil))) ass_nil))))))
    (ass_cons (as_set c 3 (ae_get (ae_ofL (al_lst (aa_cons (ae_add ae_int (ae_call F__law_draw c (aa_cons (ae_var 1) (aa_cons ae_int aa_nil)) (lCons_len (lCons_len lNil_len)))) (aa_cons ae_int aa_nil)))) (ae_int1 T.z_int (aa_cons (ae_eq c (ae_call F__law_draw c (aa_cons (ae_var 1) (aa_cons ae_int aa_nil)) (lCons_len (lCons_len lNil_len))) ae_int) aa_nil))))
    (ass_one (as_ret (ae_call F__law_is_right c (aa_cons (ae_var 3) (aa_cons (ae_call F__law_rows c (aa_cons (ae_var 1) (aa_cons (ae_var 3) (aa_cons (ae_get (ae_ofL (al_lst (aa_cons ae_int (aa_cons ae_int aa_nil)))) (ae_int1 T.z_int (aa_cons (ae_eq c (ae_var 3) ae_int) aa_nil))) (aa_cons ae_int aa_nil)))) (lCons_len (lCons_len (lCons_len (lCons_len lNil_len))))) aa_nil)) (lCons_len (lCons_len lNil_len)))))))))
theorem okx_all (T : Facts G) {f : Addr} {fd : FuncData} (F : Fun G.K "law" "law" s_law f fd) : FnOk P w G.K G.mg base (L2.CX P w) 11 f fd ["_law_script"] (spA G m_law 1) := by
  have F_is_integer : FnA G P w base 1 "is_integer" 1 m_is_integer := ok_is_integer T 
  have F_is_within : FnA G P w base 2 "is_within" 3 m_is_within := ok_is_within T F_is_integer
  have F_is_triple : FnA G P w base 1 "is_triple" 1 m_is_triple := ok_is_triple T 
  have F_is_flag : FnA G P w base 1 "is_flag" 1 m_is_flag := ok_is_flag T 
  have F_is_row : FnA G P w base 3 "is_row" 2 m_is_row := ok_is_row T F_is_flag F_is_triple F_is_within
  have F_first_bad : FnA G P w base 4 "first_bad" 2 m_first_bad := ok_first_bad T F_is_row
  have F_Log__init : MkA G P w base 5 "Log" 3 m_Log__init := ok_Log__init T F_first_bad F_is_within
  have F_check_row : FnA G P w base 3 "check_row" 2 m_check_row := ok_check_row T F_is_within
  have F_raw_log : FnA G P w base 7 "raw_log" 2 m_raw_log := ok_raw_log T F_Log__init
  have F_without : FnA G P w base 8 "without" 2 m_without := ok_without T F_check_row F_raw_log
  have F_check_loose : FnA G P w base 1 "check_loose" 1 m_check_loose := ok_check_loose T 
  have F_is_left : FnA G P w base 1 "is_left" 1 m_is_left := ok_is_left T 
  have F_cut_of : FnA G P w base 1 "cut_of" 1 m_cut_of := ok_cut_of T 
  have F_exchanged_at : FnA G P w base 1 "exchanged_at" 2 m_exchanged_at := ok_exchanged_at T 
  have F_order_led : FnA G P w base 2 "order_led" 3 m_order_led := ok_order_led T F_cut_of F_exchanged_at F_is_left
  have F_orders : FnA G P w base 3 "orders" 1 m_orders := ok_orders T F_order_led
  have F_needless : FnA G P w base 9 "needless" 1 m_needless := ok_needless T F_check_loose F_orders F_without
  have F__law_hand : FnA G P w base 1 "_law_hand" 1 m__law_hand := ok__law_hand T 
  have F__law_draw : FnA G P w base 1 "_law_draw" 2 m__law_draw := ok__law_draw T 
  have F__law_rows : FnA G P w base 2 "_law_rows" 4 m__law_rows := ok__law_rows T F__law_draw
  have F_check_offices : FnA G P w base 1 "check_offices" 2 m_check_offices := ok_check_offices T 
  have F_check_both : FnA G P w base 2 "check_both" 2 m_check_both := ok_check_both T F_check_loose F_check_offices
  have F_let_alike : FnA G P w base 4 "let_alike" 2 m_let_alike := ok_let_alike T F_check_both F_orders
  have F__law_orders : FnA G P w base 1 "_law_orders" 2 m__law_orders := ok__law_orders T 
  have F__law_turned : FnA G P w base 1 "_law_turned" 1 m__law_turned := ok__law_turned T 
  have F__law_numbers : FnA G P w base 1 "_law_numbers" 2 m__law_numbers := ok__law_numbers T 
  have F__law_is_right : FnA G P w base 10 "_law_is_right" 2 m__law_is_right := ok__law_is_right T F_Log__init F__law_numbers F__law_orders F__law_turned F_let_alike F_needless F_without
  have F__law_finals : FnA G P w base 1 "_law_finals" 2 m__law_finals := ok__law_finals T 
  have F__law_by_doings : FnA G P w base 2 "_law_by_doings" 2 m__law_by_doings := ok__law_by_doings T F__law_finals
  exact okx_law T F F_Log__init F__law_by_doings F__law_draw F__law_hand F__law_is_right F__law_rows F_needless
end
theorem all_mk {P : Program} {w : World} {K : PySem.W.Frag} {h : Heap} {mg : Str → Option Value} {fa : Addr} (X : K.In h) (N : h.Ns mainGlobals mg) (hfa : mg "law" = some (.ref fa)) (hk : noListK K = true) (hm : ∀ ns : List Int, ns.length ≤ 63 → ∃ st', m_law [.ref 0] [.rol (ns.map D.int)] = .ok (.bl true) st')
    (z_abs : PySem.W.nsIn K mainGlobals "abs" = some none)
    (z_bool : PySem.W.nsIn K mainGlobals "bool" = some none)
    (z_enumerate : PySem.W.nsIn K mainGlobals "enumerate" = some none)
    (z_int : PySem.W.nsIn K mainGlobals "int" = some none)
    (z_isinstance : PySem.W.nsIn K mainGlobals "isinstance" = some none)
    (z_len : PySem.W.nsIn K mainGlobals "len" = some none)
    (z_list : PySem.W.nsIn K mainGlobals "list" = some none)
    (z_max : PySem.W.nsIn K mainGlobals "max" = some none)
    (z_range : PySem.W.nsIn K mainGlobals "range" = some none)
    (z_sorted : PySem.W.nsIn K mainGlobals "sorted" = some none)
    (z_sum : PySem.W.nsIn K mainGlobals "sum" = some none)
    (z_tuple : PySem.W.nsIn K mainGlobals "tuple" = some none)
    {ct_MOST_OFFICES : _} (c_MOST_OFFICES : PySem.W.nsIn K mainGlobals "MOST_OFFICES" = some (some (.int 12 ct_MOST_OFFICES)))
    {ct_MOST_ROWS : _} (c_MOST_ROWS : PySem.W.nsIn K mainGlobals "MOST_ROWS" = some (some (.int 60 ct_MOST_ROWS)))
    {f_is_integer : Addr} {od_is_integer an_is_integer : Option Addr} {sl_is_integer : Array (Option Value)} {oc_is_integer kV_is_integer dc_is_integer pm_is_integer cd_is_integer ct_is_integer : Value} (fa_is_integer : PySem.W.nsIn K mainGlobals "is_integer" = some (some (.ref f_is_integer))) (fl_is_integer : K.lookup f_is_integer = some ⟨oc_is_integer, od_is_integer, .func (PySem.W.fnOf "is_integer" "is_integer" (defArgs s_is_integer) (defBody s_is_integer) (defScope s_is_integer) .none kV_is_integer dc_is_integer pm_is_integer an_is_integer cd_is_integer ct_is_integer), sl_is_integer⟩) (fc_is_integer : PySem.W.codeIn K cd_is_integer "is_integer" = true) (fk_is_integer : PySem.W.keepIn K (.ref f_is_integer) = true)
    {f_is_within : Addr} {od_is_within an_is_within : Option Addr} {sl_is_within : Array (Option Value)} {oc_is_within kV_is_within dc_is_within pm_is_within cd_is_within ct_is_within : Value} (fa_is_within : PySem.W.nsIn K mainGlobals "is_within" = some (some (.ref f_is_within))) (fl_is_within : K.lookup f_is_within = some ⟨oc_is_within, od_is_within, .func (PySem.W.fnOf "is_within" "is_within" (defArgs s_is_within) (defBody s_is_within) (defScope s_is_within) .none kV_is_within dc_is_within pm_is_within an_is_within cd_is_within ct_is_within), sl_is_within⟩) (fc_is_within : PySem.W.codeIn K cd_is_within "is_within" = true) (fk_is_within : PySem.W.keepIn K (.ref f_is_within) = true)
    {f_is_triple : Addr} {od_is_triple an_is_triple : Option Addr} {sl_is_triple : Array (Option Value)} {oc_is_triple kV_is_triple dc_is_triple pm_is_triple cd_is_triple ct_is_triple : Value} (fa_is_triple : PySem.W.nsIn K mainGlobals "is_triple" = some (some (.ref f_is_triple))) (fl_is_triple : K.lookup f_is_triple = some ⟨oc_is_triple, od_is_triple, .func (PySem.W.fnOf "is_triple" "is_triple" (defArgs s_is_triple) (defBody s_is_triple) (defScope s_is_triple) .none kV_is_triple dc_is_triple pm_is_triple an_is_triple cd_is_triple ct_is_triple), sl_is_triple⟩) (fc_is_triple : PySem.W.codeIn K cd_is_triple "is_triple" = true) (fk_is_triple : PySem.W.keepIn K (.ref f_is_triple) = true)
    {f_is_flag : Addr} {od_is_flag an_is_flag : Option Addr} {sl_is_flag : Array (Option Value)} {oc_is_flag kV_is_flag dc_is_flag pm_is_flag cd_is_flag ct_is_flag : Value} (fa_is_flag : PySem.W.nsIn K mainGlobals "is_flag" = some (some (.ref f_is_flag))) (fl_is_flag : K.lookup f_is_flag = some ⟨oc_is_flag, od_is_flag, .func (PySem.W.fnOf "is_flag" "is_flag" (defArgs s_is_flag) (defBody s_is_flag) (defScope s_is_flag) .none kV_is_flag dc_is_flag pm_is_flag an_is_flag cd_is_flag ct_is_flag), sl_is_flag⟩) (fc_is_flag : PySem.W.codeIn K cd_is_flag "is_flag" = true) (fk_is_flag : PySem.W.keepIn K (.ref f_is_flag) = true)
    {f_is_row : Addr} {od_is_row an_is_row : Option Addr} {sl_is_row : Array (Option Value)} {oc_is_row kV_is_row dc_is_row pm_is_row cd_is_row ct_is_row : Value} (fa_is_row : PySem.W.nsIn K mainGlobals "is_row" = some (some (.ref f_is_row))) (fl_is_row : K.lookup f_is_row = some ⟨oc_is_row, od_is_row, .func (PySem.W.fnOf "is_row" "is_row" (defArgs s_is_row) (defBody s_is_row) (defScope s_is_row) .none kV_is_row dc_is_row pm_is_row an_is_row cd_is_row ct_is_row), sl_is_row⟩) (fc_is_row : PySem.W.codeIn K cd_is_row "is_row" = true) (fk_is_row : PySem.W.keepIn K (.ref f_is_row) = true)
    {f_first_bad : Addr} {od_first_bad an_first_bad : Option Addr} {sl_first_bad : Array (Option Value)} {oc_first_bad kV_first_bad dc_first_bad pm_first_bad cd_first_bad ct_first_bad : Value} (fa_first_bad : PySem.W.nsIn K mainGlobals "first_bad" = some (some (.ref f_first_bad))) (fl_first_bad : K.lookup f_first_bad = some ⟨oc_first_bad, od_first_bad, .func (PySem.W.fnOf "first_bad" "first_bad" (defArgs s_first_bad) (defBody s_first_bad) (defScope s_first_bad) .none kV_first_bad dc_first_bad pm_first_bad an_first_bad cd_first_bad ct_first_bad), sl_first_bad⟩) (fc_first_bad : PySem.W.codeIn K cd_first_bad "first_bad" = true) (fk_first_bad : PySem.W.keepIn K (.ref f_first_bad) = true)
    {C_Log fi_Log : Addr} {od_Log__init an_Log__init : Option Addr} {sl_Log__init : Array (Option Value)} {oc_Log__init kV_Log__init dc_Log__init pm_Log__init cd_Log__init ct_Log__init : Value} (ka_Log : PySem.W.nsIn K mainGlobals "Log" = some (some (.ref C_Log))) (ki_Log : PySem.W.findIn K (.ref C_Log) "__init__" = some (some (.ref fi_Log))) (kf_Log : PySem.W.isFn K (.ref fi_Log) = true) (kl_Log : K.lookup fi_Log = some ⟨oc_Log__init, od_Log__init, .func (PySem.W.fnOf "__init__" "Log.__init__" (defArgs s_Log__init) (defBody s_Log__init) (defScope s_Log__init) .none kV_Log__init dc_Log__init pm_Log__init an_Log__init cd_Log__init ct_Log__init), sl_Log__init⟩) (kc_Log : PySem.W.codeIn K cd_Log__init "Log.__init__" = true) (kk_Log : PySem.W.keepIn K (.ref fi_Log) = true) (km_Log : PySem.W.makesIn K C_Log = true) (kq_Log : PySem.W.keepIn K (.ref C_Log) = true) (kp_Log : PySem.W.plainGet K C_Log Str.empty = true) (kh_Log : PySem.W.hasDictIn K C_Log = true) (ko_Log : PySem.W.plainOver K C_Log = true) (ks_Log : PySem.W.findIn K (.ref C_Log) "__setattr__" = some (some (.builtin "object.__setattr__"))) (kn_Log_offices : PySem.W.findIn K (.ref C_Log) "offices" = some none) (kn_Log_rows : PySem.W.findIn K (.ref C_Log) "rows" = some none)
    {f_check_row : Addr} {od_check_row an_check_row : Option Addr} {sl_check_row : Array (Option Value)} {oc_check_row kV_check_row dc_check_row pm_check_row cd_check_row ct_check_row : Value} (fa_check_row : PySem.W.nsIn K mainGlobals "check_row" = some (some (.ref f_check_row))) (fl_check_row : K.lookup f_check_row = some ⟨oc_check_row, od_check_row, .func (PySem.W.fnOf "check_row" "check_row" (defArgs s_check_row) (defBody s_check_row) (defScope s_check_row) .none kV_check_row dc_check_row pm_check_row an_check_row cd_check_row ct_check_row), sl_check_row⟩) (fc_check_row : PySem.W.codeIn K cd_check_row "check_row" = true) (fk_check_row : PySem.W.keepIn K (.ref f_check_row) = true)
    {f_raw_log : Addr} {od_raw_log an_raw_log : Option Addr} {sl_raw_log : Array (Option Value)} {oc_raw_log kV_raw_log dc_raw_log pm_raw_log cd_raw_log ct_raw_log : Value} (fa_raw_log : PySem.W.nsIn K mainGlobals "raw_log" = some (some (.ref f_raw_log))) (fl_raw_log : K.lookup f_raw_log = some ⟨oc_raw_log, od_raw_log, .func (PySem.W.fnOf "raw_log" "raw_log" (defArgs s_raw_log) (defBody s_raw_log) (defScope s_raw_log) .none kV_raw_log dc_raw_log pm_raw_log an_raw_log cd_raw_log ct_raw_log), sl_raw_log⟩) (fc_raw_log : PySem.W.codeIn K cd_raw_log "raw_log" = true) (fk_raw_log : PySem.W.keepIn K (.ref f_raw_log) = true)
    {f_without : Addr} {od_without an_without : Option Addr} {sl_without : Array (Option Value)} {oc_without kV_without dc_without pm_without cd_without ct_without : Value} (fa_without : PySem.W.nsIn K mainGlobals "without" = some (some (.ref f_without))) (fl_without : K.lookup f_without = some ⟨oc_without, od_without, .func (PySem.W.fnOf "without" "without" (defArgs s_without) (defBody s_without) (defScope s_without) .none kV_without dc_without pm_without an_without cd_without ct_without), sl_without⟩) (fc_without : PySem.W.codeIn K cd_without "without" = true) (fk_without : PySem.W.keepIn K (.ref f_without) = true)
    {f_check_loose : Addr} {od_check_loose an_check_loose : Option Addr} {sl_check_loose : Array (Option Value)} {oc_check_loose kV_check_loose dc_check_loose pm_check_loose cd_check_loose ct_check_loose : Value} (fa_check_loose : PySem.W.nsIn K mainGlobals "check_loose" = some (some (.ref f_check_loose))) (fl_check_loose : K.lookup f_check_loose = some ⟨oc_check_loose, od_check_loose, .func (PySem.W.fnOf "check_loose" "check_loose" (defArgs s_check_loose) (defBody s_check_loose) (defScope s_check_loose) .none kV_check_loose dc_check_loose pm_check_loose an_check_loose cd_check_loose ct_check_loose), sl_check_loose⟩) (fc_check_loose : PySem.W.codeIn K cd_check_loose "check_loose" = true) (fk_check_loose : PySem.W.keepIn K (.ref f_check_loose) = true)
    {f_is_left : Addr} {od_is_left an_is_left : Option Addr} {sl_is_left : Array (Option Value)} {oc_is_left kV_is_left dc_is_left pm_is_left cd_is_left ct_is_left : Value} (fa_is_left : PySem.W.nsIn K mainGlobals "is_left" = some (some (.ref f_is_left))) (fl_is_left : K.lookup f_is_left = some ⟨oc_is_left, od_is_left, .func (PySem.W.fnOf "is_left" "is_left" (defArgs s_is_left) (defBody s_is_left) (defScope s_is_left) .none kV_is_left dc_is_left pm_is_left an_is_left cd_is_left ct_is_left), sl_is_left⟩) (fc_is_left : PySem.W.codeIn K cd_is_left "is_left" = true) (fk_is_left : PySem.W.keepIn K (.ref f_is_left) = true)
    {f_cut_of : Addr} {od_cut_of an_cut_of : Option Addr} {sl_cut_of : Array (Option Value)} {oc_cut_of kV_cut_of dc_cut_of pm_cut_of cd_cut_of ct_cut_of : Value} (fa_cut_of : PySem.W.nsIn K mainGlobals "cut_of" = some (some (.ref f_cut_of))) (fl_cut_of : K.lookup f_cut_of = some ⟨oc_cut_of, od_cut_of, .func (PySem.W.fnOf "cut_of" "cut_of" (defArgs s_cut_of) (defBody s_cut_of) (defScope s_cut_of) .none kV_cut_of dc_cut_of pm_cut_of an_cut_of cd_cut_of ct_cut_of), sl_cut_of⟩) (fc_cut_of : PySem.W.codeIn K cd_cut_of "cut_of" = true) (fk_cut_of : PySem.W.keepIn K (.ref f_cut_of) = true)
    {f_exchanged_at : Addr} {od_exchanged_at an_exchanged_at : Option Addr} {sl_exchanged_at : Array (Option Value)} {oc_exchanged_at kV_exchanged_at dc_exchanged_at pm_exchanged_at cd_exchanged_at ct_exchanged_at : Value} (fa_exchanged_at : PySem.W.nsIn K mainGlobals "exchanged_at" = some (some (.ref f_exchanged_at))) (fl_exchanged_at : K.lookup f_exchanged_at = some ⟨oc_exchanged_at, od_exchanged_at, .func (PySem.W.fnOf "exchanged_at" "exchanged_at" (defArgs s_exchanged_at) (defBody s_exchanged_at) (defScope s_exchanged_at) .none kV_exchanged_at dc_exchanged_at pm_exchanged_at an_exchanged_at cd_exchanged_at ct_exchanged_at), sl_exchanged_at⟩) (fc_exchanged_at : PySem.W.codeIn K cd_exchanged_at "exchanged_at" = true) (fk_exchanged_at : PySem.W.keepIn K (.ref f_exchanged_at) = true)
    {f_order_led : Addr} {od_order_led an_order_led : Option Addr} {sl_order_led : Array (Option Value)} {oc_order_led kV_order_led dc_order_led pm_order_led cd_order_led ct_order_led : Value} (fa_order_led : PySem.W.nsIn K mainGlobals "order_led" = some (some (.ref f_order_led))) (fl_order_led : K.lookup f_order_led = some ⟨oc_order_led, od_order_led, .func (PySem.W.fnOf "order_led" "order_led" (defArgs s_order_led) (defBody s_order_led) (defScope s_order_led) .none kV_order_led dc_order_led pm_order_led an_order_led cd_order_led ct_order_led), sl_order_led⟩) (fc_order_led : PySem.W.codeIn K cd_order_led "order_led" = true) (fk_order_led : PySem.W.keepIn K (.ref f_order_led) = true)
    {f_orders : Addr} {od_orders an_orders : Option Addr} {sl_orders : Array (Option Value)} {oc_orders kV_orders dc_orders pm_orders cd_orders ct_orders : Value} (fa_orders : PySem.W.nsIn K mainGlobals "orders" = some (some (.ref f_orders))) (fl_orders : K.lookup f_orders = some ⟨oc_orders, od_orders, .func (PySem.W.fnOf "orders" "orders" (defArgs s_orders) (defBody s_orders) (defScope s_orders) .none kV_orders dc_orders pm_orders an_orders cd_orders ct_orders), sl_orders⟩) (fc_orders : PySem.W.codeIn K cd_orders "orders" = true) (fk_orders : PySem.W.keepIn K (.ref f_orders) = true)
    {f_needless : Addr} {od_needless an_needless : Option Addr} {sl_needless : Array (Option Value)} {oc_needless kV_needless dc_needless pm_needless cd_needless ct_needless : Value} (fa_needless : PySem.W.nsIn K mainGlobals "needless" = some (some (.ref f_needless))) (fl_needless : K.lookup f_needless = some ⟨oc_needless, od_needless, .func (PySem.W.fnOf "needless" "needless" (defArgs s_needless) (defBody s_needless) (defScope s_needless) .none kV_needless dc_needless pm_needless an_needless cd_needless ct_needless), sl_needless⟩) (fc_needless : PySem.W.codeIn K cd_needless "needless" = true) (fk_needless : PySem.W.keepIn K (.ref f_needless) = true)
    {f__law_hand : Addr} {od__law_hand an__law_hand : Option Addr} {sl__law_hand : Array (Option Value)} {oc__law_hand kV__law_hand dc__law_hand pm__law_hand cd__law_hand ct__law_hand : Value} (fa__law_hand : PySem.W.nsIn K mainGlobals "_law_hand" = some (some (.ref f__law_hand))) (fl__law_hand : K.lookup f__law_hand = some ⟨oc__law_hand, od__law_hand, .func (PySem.W.fnOf "_law_hand" "_law_hand" (defArgs s__law_hand) (defBody s__law_hand) (defScope s__law_hand) .none kV__law_hand dc__law_hand pm__law_hand an__law_hand cd__law_hand ct__law_hand), sl__law_hand⟩) (fc__law_hand : PySem.W.codeIn K cd__law_hand "_law_hand" = true) (fk__law_hand : PySem.W.keepIn K (.ref f__law_hand) = true)
    {f__law_draw : Addr} {od__law_draw an__law_draw : Option Addr} {sl__law_draw : Array (Option Value)} {oc__law_draw kV__law_draw dc__law_draw pm__law_draw cd__law_draw ct__law_draw : Value} (fa__law_draw : PySem.W.nsIn K mainGlobals "_law_draw" = some (some (.ref f__law_draw))) (fl__law_draw : K.lookup f__law_draw = some ⟨oc__law_draw, od__law_draw, .func (PySem.W.fnOf "_law_draw" "_law_draw" (defArgs s__law_draw) (defBody s__law_draw) (defScope s__law_draw) .none kV__law_draw dc__law_draw pm__law_draw an__law_draw cd__law_draw ct__law_draw), sl__law_draw⟩) (fc__law_draw : PySem.W.codeIn K cd__law_draw "_law_draw" = true) (fk__law_draw : PySem.W.keepIn K (.ref f__law_draw) = true)
    {f__law_rows : Addr} {od__law_rows an__law_rows : Option Addr} {sl__law_rows : Array (Option Value)} {oc__law_rows kV__law_rows dc__law_rows pm__law_rows cd__law_rows ct__law_rows : Value} (fa__law_rows : PySem.W.nsIn K mainGlobals "_law_rows" = some (some (.ref f__law_rows))) (fl__law_rows : K.lookup f__law_rows = some ⟨oc__law_rows, od__law_rows, .func (PySem.W.fnOf "_law_rows" "_law_rows" (defArgs s__law_rows) (defBody s__law_rows) (defScope s__law_rows) .none kV__law_rows dc__law_rows pm__law_rows an__law_rows cd__law_rows ct__law_rows), sl__law_rows⟩) (fc__law_rows : PySem.W.codeIn K cd__law_rows "_law_rows" = true) (fk__law_rows : PySem.W.keepIn K (.ref f__law_rows) = true)
    {f_check_offices : Addr} {od_check_offices an_check_offices : Option Addr} {sl_check_offices : Array (Option Value)} {oc_check_offices kV_check_offices dc_check_offices pm_check_offices cd_check_offices ct_check_offices : Value} (fa_check_offices : PySem.W.nsIn K mainGlobals "check_offices" = some (some (.ref f_check_offices))) (fl_check_offices : K.lookup f_check_offices = some ⟨oc_check_offices, od_check_offices, .func (PySem.W.fnOf "check_offices" "check_offices" (defArgs s_check_offices) (defBody s_check_offices) (defScope s_check_offices) .none kV_check_offices dc_check_offices pm_check_offices an_check_offices cd_check_offices ct_check_offices), sl_check_offices⟩) (fc_check_offices : PySem.W.codeIn K cd_check_offices "check_offices" = true) (fk_check_offices : PySem.W.keepIn K (.ref f_check_offices) = true)
    {f_check_both : Addr} {od_check_both an_check_both : Option Addr} {sl_check_both : Array (Option Value)} {oc_check_both kV_check_both dc_check_both pm_check_both cd_check_both ct_check_both : Value} (fa_check_both : PySem.W.nsIn K mainGlobals "check_both" = some (some (.ref f_check_both))) (fl_check_both : K.lookup f_check_both = some ⟨oc_check_both, od_check_both, .func (PySem.W.fnOf "check_both" "check_both" (defArgs s_check_both) (defBody s_check_both) (defScope s_check_both) .none kV_check_both dc_check_both pm_check_both an_check_both cd_check_both ct_check_both), sl_check_both⟩) (fc_check_both : PySem.W.codeIn K cd_check_both "check_both" = true) (fk_check_both : PySem.W.keepIn K (.ref f_check_both) = true)
    {f_let_alike : Addr} {od_let_alike an_let_alike : Option Addr} {sl_let_alike : Array (Option Value)} {oc_let_alike kV_let_alike dc_let_alike pm_let_alike cd_let_alike ct_let_alike : Value} (fa_let_alike : PySem.W.nsIn K mainGlobals "let_alike" = some (some (.ref f_let_alike))) (fl_let_alike : K.lookup f_let_alike = some ⟨oc_let_alike, od_let_alike, .func (PySem.W.fnOf "let_alike" "let_alike" (defArgs s_let_alike) (defBody s_let_alike) (defScope s_let_alike) .none kV_let_alike dc_let_alike pm_let_alike an_let_alike cd_let_alike ct_let_alike), sl_let_alike⟩) (fc_let_alike : PySem.W.codeIn K cd_let_alike "let_alike" = true) (fk_let_alike : PySem.W.keepIn K (.ref f_let_alike) = true)
    {f__law_orders : Addr} {od__law_orders an__law_orders : Option Addr} {sl__law_orders : Array (Option Value)} {oc__law_orders kV__law_orders dc__law_orders pm__law_orders cd__law_orders ct__law_orders : Value} (fa__law_orders : PySem.W.nsIn K mainGlobals "_law_orders" = some (some (.ref f__law_orders))) (fl__law_orders : K.lookup f__law_orders = some ⟨oc__law_orders, od__law_orders, .func (PySem.W.fnOf "_law_orders" "_law_orders" (defArgs s__law_orders) (defBody s__law_orders) (defScope s__law_orders) .none kV__law_orders dc__law_orders pm__law_orders an__law_orders cd__law_orders ct__law_orders), sl__law_orders⟩) (fc__law_orders : PySem.W.codeIn K cd__law_orders "_law_orders" = true) (fk__law_orders : PySem.W.keepIn K (.ref f__law_orders) = true)
    {f__law_turned : Addr} {od__law_turned an__law_turned : Option Addr} {sl__law_turned : Array (Option Value)} {oc__law_turned kV__law_turned dc__law_turned pm__law_turned cd__law_turned ct__law_turned : Value} (fa__law_turned : PySem.W.nsIn K mainGlobals "_law_turned" = some (some (.ref f__law_turned))) (fl__law_turned : K.lookup f__law_turned = some ⟨oc__law_turned, od__law_turned, .func (PySem.W.fnOf "_law_turned" "_law_turned" (defArgs s__law_turned) (defBody s__law_turned) (defScope s__law_turned) .none kV__law_turned dc__law_turned pm__law_turned an__law_turned cd__law_turned ct__law_turned), sl__law_turned⟩) (fc__law_turned : PySem.W.codeIn K cd__law_turned "_law_turned" = true) (fk__law_turned : PySem.W.keepIn K (.ref f__law_turned) = true)
    {f__law_numbers : Addr} {od__law_numbers an__law_numbers : Option Addr} {sl__law_numbers : Array (Option Value)} {oc__law_numbers kV__law_numbers dc__law_numbers pm__law_numbers cd__law_numbers ct__law_numbers : Value} (fa__law_numbers : PySem.W.nsIn K mainGlobals "_law_numbers" = some (some (.ref f__law_numbers))) (fl__law_numbers : K.lookup f__law_numbers = some ⟨oc__law_numbers, od__law_numbers, .func (PySem.W.fnOf "_law_numbers" "_law_numbers" (defArgs s__law_numbers) (defBody s__law_numbers) (defScope s__law_numbers) .none kV__law_numbers dc__law_numbers pm__law_numbers an__law_numbers cd__law_numbers ct__law_numbers), sl__law_numbers⟩) (fc__law_numbers : PySem.W.codeIn K cd__law_numbers "_law_numbers" = true) (fk__law_numbers : PySem.W.keepIn K (.ref f__law_numbers) = true)
    {f__law_is_right : Addr} {od__law_is_right an__law_is_right : Option Addr} {sl__law_is_right : Array (Option Value)} {oc__law_is_right kV__law_is_right dc__law_is_right pm__law_is_right cd__law_is_right ct__law_is_right : Value} (fa__law_is_right : PySem.W.nsIn K mainGlobals "_law_is_right" = some (some (.ref f__law_is_right))) (fl__law_is_right : K.lookup f__law_is_right = some ⟨oc__law_is_right, od__law_is_right, .func (PySem.W.fnOf "_law_is_right" "_law_is_right" (defArgs s__law_is_right) (defBody s__law_is_right) (defScope s__law_is_right) .none kV__law_is_right dc__law_is_right pm__law_is_right an__law_is_right cd__law_is_right ct__law_is_right), sl__law_is_right⟩) (fc__law_is_right : PySem.W.codeIn K cd__law_is_right "_law_is_right" = true) (fk__law_is_right : PySem.W.keepIn K (.ref f__law_is_right) = true)
    {f__law_finals : Addr} {od__law_finals an__law_finals : Option Addr} {sl__law_finals : Array (Option Value)} {oc__law_finals kV__law_finals dc__law_finals pm__law_finals cd__law_finals ct__law_finals : Value} (fa__law_finals : PySem.W.nsIn K mainGlobals "_law_finals" = some (some (.ref f__law_finals))) (fl__law_finals : K.lookup f__law_finals = some ⟨oc__law_finals, od__law_finals, .func (PySem.W.fnOf "_law_finals" "_law_finals" (defArgs s__law_finals) (defBody s__law_finals) (defScope s__law_finals) .none kV__law_finals dc__law_finals pm__law_finals an__law_finals cd__law_finals ct__law_finals), sl__law_finals⟩) (fc__law_finals : PySem.W.codeIn K cd__law_finals "_law_finals" = true) (fk__law_finals : PySem.W.keepIn K (.ref f__law_finals) = true)
    {f__law_by_doings : Addr} {od__law_by_doings an__law_by_doings : Option Addr} {sl__law_by_doings : Array (Option Value)} {oc__law_by_doings kV__law_by_doings dc__law_by_doings pm__law_by_doings cd__law_by_doings ct__law_by_doings : Value} (fa__law_by_doings : PySem.W.nsIn K mainGlobals "_law_by_doings" = some (some (.ref f__law_by_doings))) (fl__law_by_doings : K.lookup f__law_by_doings = some ⟨oc__law_by_doings, od__law_by_doings, .func (PySem.W.fnOf "_law_by_doings" "_law_by_doings" (defArgs s__law_by_doings) (defBody s__law_by_doings) (defScope s__law_by_doings) .none kV__law_by_doings dc__law_by_doings pm__law_by_doings an__law_by_doings cd__law_by_doings ct__law_by_doings), sl__law_by_doings⟩) (fc__law_by_doings : PySem.W.codeIn K cd__law_by_doings "_law_by_doings" = true) (fk__law_by_doings : PySem.W.keepIn K (.ref f__law_by_doings) = true)
    {f_law : Addr} {od_law an_law : Option Addr} {sl_law : Array (Option Value)} {oc_law kV_law dc_law pm_law cd_law ct_law : Value} (fa_law : PySem.W.nsIn K mainGlobals "law" = some (some (.ref f_law))) (fl_law : K.lookup f_law = some ⟨oc_law, od_law, .func (PySem.W.fnOf "law" "law" (defArgs s_law) (defBody s_law) (defScope s_law) .none kV_law dc_law pm_law an_law cd_law ct_law), sl_law⟩) (fc_law : PySem.W.codeIn K cd_law "law" = true) (fk_law : PySem.W.keepIn K (.ref f_law) = true)
    {C_NoRow : Addr} (xa_NoRow : PySem.W.nsIn K mainGlobals "NoRow" = some (some (.ref C_NoRow))) (xe_NoRow : PySem.W.excIn K C_NoRow HandSPX.veTail "ValueError.__new__" = true) (xk_NoRow : PySem.W.keepIn K (.ref C_NoRow) = true) (xs_NoRow : PySem.W.subIn K (.ref C_NoRow) (.type "BaseException") = some true) (xt_NoRow : PySem.W.typeIn K (.ref C_NoRow) = some (.type "type"))
    {C_OtherOffices : Addr} (xa_OtherOffices : PySem.W.nsIn K mainGlobals "OtherOffices" = some (some (.ref C_OtherOffices))) (xe_OtherOffices : PySem.W.excIn K C_OtherOffices HandSPX.veTail "ValueError.__new__" = true) (xk_OtherOffices : PySem.W.keepIn K (.ref C_OtherOffices) = true) (xs_OtherOffices : PySem.W.subIn K (.ref C_OtherOffices) (.type "BaseException") = some true) (xt_OtherOffices : PySem.W.typeIn K (.ref C_OtherOffices) = some (.type "type")) :
    ∃ fd : FuncData, (∀ (s : Shared) (v : Value), BindsTo s fd ⟨[v], []⟩ [("_law_script", v)]) ∧ ∀ base : Heap, K.In base → base.Ns mainGlobals mg → FnOk P w K mg base (L2.CX P w) 11 fa fd ["_law_script"] (spEnd K 63) := by
  have e := hfa.symm.trans (PySem.W.mg_of X N fa_law)
  cases e
  have T : Facts ⟨K, mg⟩ := { z_abs := PySem.W.mg_none_of X N z_abs, z_bool := PySem.W.mg_none_of X N z_bool, z_enumerate := PySem.W.mg_none_of X N z_enumerate, z_int := PySem.W.mg_none_of X N z_int, z_isinstance := PySem.W.mg_none_of X N z_isinstance, z_len := PySem.W.mg_none_of X N z_len, z_list := PySem.W.mg_none_of X N z_list, z_max := PySem.W.mg_none_of X N z_max, z_range := PySem.W.mg_none_of X N z_range, z_sorted := PySem.W.mg_none_of X N z_sorted, z_sum := PySem.W.mg_none_of X N z_sum, z_tuple := PySem.W.mg_none_of X N z_tuple, c_MOST_OFFICES := ⟨_, PySem.W.mg_of X N c_MOST_OFFICES⟩, c_MOST_ROWS := ⟨_, PySem.W.mg_of X N c_MOST_ROWS⟩, f_is_integer := funF_of X N fa_is_integer fl_is_integer fc_is_integer fk_is_integer, f_is_within := funF_of X N fa_is_within fl_is_within fc_is_within fk_is_within, f_is_triple := funF_of X N fa_is_triple fl_is_triple fc_is_triple fk_is_triple, f_is_flag := funF_of X N fa_is_flag fl_is_flag fc_is_flag fk_is_flag, f_is_row := funF_of X N fa_is_row fl_is_row fc_is_row fk_is_row, f_first_bad := funF_of X N fa_first_bad fl_first_bad fc_first_bad fk_first_bad, i_Log := clsF_of X N ka_Log ki_Log kf_Log kl_Log kc_Log kk_Log km_Log kq_Log, a_Log := clsA_of X N ka_Log kp_Log kh_Log ko_Log ks_Log (fun f hf => by simp only [List.mem_cons, List.not_mem_nil, or_false] at hf; rcases hf with rfl | rfl; exact kn_Log_offices; exact kn_Log_rows), f_check_row := funF_of X N fa_check_row fl_check_row fc_check_row fk_check_row, f_raw_log := funF_of X N fa_raw_log fl_raw_log fc_raw_log fk_raw_log, f_without := funF_of X N fa_without fl_without fc_without fk_without, f_check_loose := funF_of X N fa_check_loose fl_check_loose fc_check_loose fk_check_loose, f_is_left := funF_of X N fa_is_left fl_is_left fc_is_left fk_is_left, f_cut_of := funF_of X N fa_cut_of fl_cut_of fc_cut_of fk_cut_of, f_exchanged_at := funF_of X N fa_exchanged_at fl_exchanged_at fc_exchanged_at fk_exchanged_at, f_order_led := funF_of X N fa_order_led fl_order_led fc_order_led fk_order_led, f_orders := funF_of X N fa_orders fl_orders fc_orders fk_orders, f_needless := funF_of X N fa_needless fl_needless fc_needless fk_needless, f__law_hand := funF_of X N fa__law_hand fl__law_hand fc__law_hand fk__law_hand, f__law_draw := funF_of X N fa__law_draw fl__law_draw fc__law_draw fk__law_draw, f__law_rows := funF_of X N fa__law_rows fl__law_rows fc__law_rows fk__law_rows, f_check_offices := funF_of X N fa_check_offices fl_check_offices fc_check_offices fk_check_offices, f_check_both := funF_of X N fa_check_both fl_check_both fc_check_both fk_check_both, f_let_alike := funF_of X N fa_let_alike fl_let_alike fc_let_alike fk_let_alike, f__law_orders := funF_of X N fa__law_orders fl__law_orders fc__law_orders fk__law_orders, f__law_turned := funF_of X N fa__law_turned fl__law_turned fc__law_turned fk__law_turned, f__law_numbers := funF_of X N fa__law_numbers fl__law_numbers fc__law_numbers fk__law_numbers, f__law_is_right := funF_of X N fa__law_is_right fl__law_is_right fc__law_is_right fk__law_is_right, f__law_finals := funF_of X N fa__law_finals fl__law_finals fc__law_finals fk__law_finals, f__law_by_doings := funF_of X N fa__law_by_doings fl__law_by_doings fc__law_by_doings fk__law_by_doings, f_law := funF_of X N fa_law fl_law fc_law fk_law, x_NoRow := raiF_of X N xa_NoRow xe_NoRow xk_NoRow xs_NoRow xt_NoRow, x_OtherOffices := raiF_of X N xa_OtherOffices xe_OtherOffices xk_OtherOffices xs_OtherOffices xt_OtherOffices }
  have FL := fun_mk (st := s_law) fl_law fc_law fk_law
  exact ⟨_, fun s v => .of_eq rfl, fun base _ _ => FnOk.atEnd (okx_all (G := ⟨K, mg⟩) T FL) hk hm⟩
end TK
open PySem PySem.W PyProof.Rows
def TK.LawT : Prop := ∀ ns : List Int, ns.length ≤ 63 → ∃ st', TK.m_law [.ref 0] [.rol (ns.map TK.D.int)] = .ok (.bl true) st'
set_option maxHeartbeats 0 in
theorem PySem.Challenge.cw_takenover_k60_whole_needless_rows_holds : PySem.Challenge.rw_takenover_k60_whole_needless_rows.Holds := by
  w_on; o_law; k_head; (case hw => w_witness2)
  k_fill
  refine L2.walk_of (l := PySem.Challenge.rw_takenover_k60_whole_needless_rows) (n := 63) (k := 11) (x := "_law_script") (CX := fun w => L2.CX (PySem.Challenge.rw_takenover_k60_whole_needless_rows).prog w) (sp := fun w => TK.spEnd _ 63) rfl (by decide) rfl ⟨rfl, by decide, by decide⟩ (fun w h Y => PySem.W.kIn_of Y) ?F (fun _ _ a ns hl hO hS => ⟨a, ns, rfl, hl, hO, hS, fun _ => rfl⟩) (fun _ H s e s' z => TK.CX_no H s e s' z)
  case F =>
    intro w mg fa h KX G hmg
    refine' TK.all_mk KX G hmg ?hk TK.law_thm ?z_abs ?z_bool ?z_enumerate ?z_int ?z_isinstance ?z_len ?z_list ?z_max ?z_range ?z_sorted ?z_sum ?z_tuple ?c_MOST_OFFICES ?c_MOST_ROWS ?fa_is_integer ?fl_is_integer ?fc_is_integer ?fk_is_integer ?fa_is_within ?fl_is_within ?fc_is_within ?fk_is_within ?fa_is_triple ?fl_is_triple ?fc_is_triple ?fk_is_triple ?fa_is_flag ?fl_is_flag ?fc_is_flag ?fk_is_flag ?fa_is_row ?fl_is_row ?fc_is_row ?fk_is_row ?fa_first_bad ?fl_first_bad ?fc_first_bad ?fk_first_bad ?ka_Log ?ki_Log ?kf_Log ?kl_Log ?kc_Log ?kk_Log ?km_Log ?kq_Log ?kp_Log ?kh_Log ?ko_Log ?ks_Log ?kn_Log_offices ?kn_Log_rows ?fa_check_row ?fl_check_row ?fc_check_row ?fk_check_row ?fa_raw_log ?fl_raw_log ?fc_raw_log ?fk_raw_log ?fa_without ?fl_without ?fc_without ?fk_without ?fa_check_loose ?fl_check_loose ?fc_check_loose ?fk_check_loose ?fa_is_left ?fl_is_left ?fc_is_left ?fk_is_left ?fa_cut_of ?fl_cut_of ?fc_cut_of ?fk_cut_of ?fa_exchanged_at ?fl_exchanged_at ?fc_exchanged_at ?fk_exchanged_at ?fa_order_led ?fl_order_led ?fc_order_led ?fk_order_led ?fa_orders ?fl_orders ?fc_orders ?fk_orders ?fa_needless ?fl_needless ?fc_needless ?fk_needless ?fa__law_hand ?fl__law_hand ?fc__law_hand ?fk__law_hand ?fa__law_draw ?fl__law_draw ?fc__law_draw ?fk__law_draw ?fa__law_rows ?fl__law_rows ?fc__law_rows ?fk__law_rows ?fa_check_offices ?fl_check_offices ?fc_check_offices ?fk_check_offices ?fa_check_both ?fl_check_both ?fc_check_both ?fk_check_both ?fa_let_alike ?fl_let_alike ?fc_let_alike ?fk_let_alike ?fa__law_orders ?fl__law_orders ?fc__law_orders ?fk__law_orders ?fa__law_turned ?fl__law_turned ?fc__law_turned ?fk__law_turned ?fa__law_numbers ?fl__law_numbers ?fc__law_numbers ?fk__law_numbers ?fa__law_is_right ?fl__law_is_right ?fc__law_is_right ?fk__law_is_right ?fa__law_finals ?fl__law_finals ?fc__law_finals ?fk__law_finals ?fa__law_by_doings ?fl__law_by_doings ?fc__law_by_doings ?fk__law_by_doings ?fa_law ?fl_law ?fc_law ?fk_law ?xa_NoRow ?xe_NoRow ?xk_NoRow ?xs_NoRow ?xt_NoRow ?xa_OtherOffices ?xe_OtherOffices ?xk_OtherOffices ?xs_OtherOffices ?xt_OtherOffices
    (case hk => kernel_rfl); (case z_abs => k_is); (case z_bool => k_is); (case z_enumerate => k_is); (case z_int => k_is); (case z_isinstance => k_is); (case z_len => k_is); (case z_list => k_is); (case z_max => k_is); (case z_range => k_is); (case z_sorted => k_is); (case z_sum => k_is); (case z_tuple => k_is); (case c_MOST_OFFICES => k_is); (case c_MOST_ROWS => k_is); (case fa_is_integer => k_is); (case fl_is_integer => k_is); (case fc_is_integer => k_is); (case fk_is_integer => k_is); (case fa_is_within => k_is); (case fl_is_within => k_is); (case fc_is_within => k_is); (case fk_is_within => k_is); (case fa_is_triple => k_is); (case fl_is_triple => k_is); (case fc_is_triple => k_is); (case fk_is_triple => k_is); (case fa_is_flag => k_is); (case fl_is_flag => k_is); (case fc_is_flag => k_is); (case fk_is_flag => k_is); (case fa_is_row => k_is); (case fl_is_row => k_is); (case fc_is_row => k_is); (case fk_is_row => k_is); (case fa_first_bad => k_is); (case fl_first_bad => k_is); (case fc_first_bad => k_is); (case fk_first_bad => k_is); (case ka_Log => k_is); (case ki_Log => k_is); (case kf_Log => k_is); (case kl_Log => k_is); (case kc_Log => k_is); (case kk_Log => k_is); (case km_Log => k_is); (case kq_Log => k_is); (case kp_Log => k_is); (case kh_Log => k_is); (case ko_Log => k_is); (case ks_Log => k_is); (case kn_Log_offices => k_is); (case kn_Log_rows => k_is); (case fa_check_row => k_is); (case fl_check_row => k_is); (case fc_check_row => k_is); (case fk_check_row => k_is); (case fa_raw_log => k_is); (case fl_raw_log => k_is); (case fc_raw_log => k_is); (case fk_raw_log => k_is); (case fa_without => k_is); (case fl_without => k_is); (case fc_without => k_is); (case fk_without => k_is); (case fa_check_loose => k_is); (case fl_check_loose => k_is); (case fc_check_loose => k_is); (case fk_check_loose => k_is); (case fa_is_left => k_is); (case fl_is_left => k_is); (case fc_is_left => k_is); (case fk_is_left => k_is); (case fa_cut_of => k_is); (case fl_cut_of => k_is); (case fc_cut_of => k_is); (case fk_cut_of => k_is); (case fa_exchanged_at => k_is); (case fl_exchanged_at => k_is); (case fc_exchanged_at => k_is); (case fk_exchanged_at => k_is); (case fa_order_led => k_is); (case fl_order_led => k_is); (case fc_order_led => k_is); (case fk_order_led => k_is); (case fa_orders => k_is); (case fl_orders => k_is); (case fc_orders => k_is); (case fk_orders => k_is); (case fa_needless => k_is); (case fl_needless => k_is); (case fc_needless => k_is); (case fk_needless => k_is); (case fa__law_hand => k_is); (case fl__law_hand => k_is); (case fc__law_hand => k_is); (case fk__law_hand => k_is); (case fa__law_draw => k_is); (case fl__law_draw => k_is); (case fc__law_draw => k_is); (case fk__law_draw => k_is); (case fa__law_rows => k_is); (case fl__law_rows => k_is); (case fc__law_rows => k_is); (case fk__law_rows => k_is); (case fa_check_offices => k_is); (case fl_check_offices => k_is); (case fc_check_offices => k_is); (case fk_check_offices => k_is); (case fa_check_both => k_is); (case fl_check_both => k_is); (case fc_check_both => k_is); (case fk_check_both => k_is); (case fa_let_alike => k_is); (case fl_let_alike => k_is); (case fc_let_alike => k_is); (case fk_let_alike => k_is); (case fa__law_orders => k_is); (case fl__law_orders => k_is); (case fc__law_orders => k_is); (case fk__law_orders => k_is); (case fa__law_turned => k_is); (case fl__law_turned => k_is); (case fc__law_turned => k_is); (case fk__law_turned => k_is); (case fa__law_numbers => k_is); (case fl__law_numbers => k_is); (case fc__law_numbers => k_is); (case fk__law_numbers => k_is); (case fa__law_is_right => k_is); (case fl__law_is_right => k_is); (case fc__law_is_right => k_is); (case fk__law_is_right => k_is); (case fa__law_finals => k_is); (case fl__law_finals => k_is); (case fc__law_finals => k_is); (case fk__law_finals => k_is); (case fa__law_by_doings => k_is); (case fl__law_by_doings => k_is); (case fc__law_by_doings => k_is); (case fk__law_by_doings => k_is); (case fa_law => k_is); (case fl_law => k_is); (case fc_law => k_is); (case fk_law => k_is); (case xa_NoRow => k_is); (case xe_NoRow => kernel_rfl); (case xk_NoRow => k_is); (case xs_NoRow => k_is); (case xt_NoRow => k_is); (case xa_OtherOffices => k_is); (case xe_OtherOffices => kernel_rfl); (case xk_OtherOffices => k_is); (case xs_OtherOffices => k_is); (case xt_OtherOffices => k_is)
