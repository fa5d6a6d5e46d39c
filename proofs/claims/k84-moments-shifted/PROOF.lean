import PyProof.Rows.All
import Wide.All
import OpenK.AllK
import Wide.FinOn
import HandS.ForMost
import HandS.ForExc
import HandS.TupMul
import HandS.TupAny
import HandS.Iter
import KE.GoesMore
import HandS.Flow
import HandS.IsInst
import HandS.Wide
import HandS.TupLe
import HandS.CallSlots
import HandS.SortInts
import HandS.Sort
import HandS.Deep
import HandS.More
import HandS.Zip
import HandS.Conv
import HandS.Ends
import HandS.EndBits
import HandS.Style
import HandS.SortOrd
import KE.KRevSl
import HandS.OwnEq
import HandS.DictComp
import HandS.TryOnly
import PyProof.InstEq
import PySem.Challenge.RW_takenover_k84_whole_moments_that_are_shi
set_option Elab.async false
set_option linter.all false
set_option maxRecDepth 100000
set_option maxHeartbeats 4000000
namespace L2
open PySem PySem.Spec PyProof.Rows
theorem tk_mulSame (l : Addr) (items : Array Value) (n : Nat) (dd : Option Addr) (sl : Array (Option Value)) (x : Int) (u : Tok) (c0 : (decide (x < -(2 ^ 63)) || decide (x ≥ 2 ^ 63)) = false) (c1 : (items.isEmpty || x == 1) = true) :
    Meets (Builtin.«tuple.__mul__» ⟨[.ref l, .int x u], []⟩) (fun _ R s => s.heap.get? l = some { cls := .type "tuple", dict := dd, data := .seq items n, slots := sl } ∧ R (.ok (.ret (Value.ref l))) s) :=
  .of_wp fun prog w A R s h => by
    obtain ⟨hp, g, d, tk, os⟩ := s
    obtain ⟨hl, h⟩ := h
    have f1 := AutoSeq1.idx_int
    wp_walk using wpAny_loadPart' hl
    repeat (first
      | (refine wpAny_ite_false (decide_eq_false (by rw [c0]; exact Bool.false_ne_true)) ?_; wp_walk using wpAny_loadPart' hl)
      | (refine wpAny_ite_true (decide_eq_true (by rw [c1])) ?_; wp_walk using wpAny_loadPart' hl))
    exact ⟨_, rfl, h⟩
theorem tk_mulNone (l : Addr) (items : Array Value) (n : Nat) (dd : Option Addr) (sl : Array (Option Value)) (x : Int) (u : Tok) (c0 : (decide (x < -(2 ^ 63)) || decide (x ≥ 2 ^ 63)) = false) (c1 : (items.isEmpty || x == 1) = false) (c2 : (decide (x ≤ 0) || items.isEmpty) = true) :
    Meets (Builtin.«tuple.__mul__» ⟨[.ref l, .int x u], []⟩) (fun _ R s => s.heap.get? l = some { cls := .type "tuple", dict := dd, data := .seq items n, slots := sl } ∧
      R (.ok (.ret (Value.ref s.heap.objs.size))) { s with heap := s.heap.push { cls := Value.type "tuple", data := Data.seq #[] }, toks := s.toks }) :=
  .of_wp fun prog w A R s h => by
    obtain ⟨hp, g, d, tk, os⟩ := s
    obtain ⟨hl, h⟩ := h
    have f1 := AutoSeq1.idx_int
    wp_walk using wpAny_loadPart' hl
    repeat (first
      | (refine wpAny_ite_false (decide_eq_false (by rw [c0]; exact Bool.false_ne_true)) ?_; wp_walk using wpAny_loadPart' hl)
      | (refine wpAny_ite_false (decide_eq_false (by rw [c1]; exact Bool.false_ne_true)) ?_; wp_walk using wpAny_loadPart' hl)
      | (refine wpAny_ite_true (decide_eq_true (by rw [c2])) ?_; wp_walk using wpAny_loadPart' hl))
    exact ⟨_, rfl, h⟩
/-- t * k, any k up to 1000 -/
def rRepA (K : PySem.W.Frag) : R2 := fun x y H Q => ∃ l k xs, x = .ref l ∧ y = .int k ∧ SqT K H l xs ∧ -1000000 ≤ k ∧ k ≤ 1000 ∧ xs.length ≤ 1000 ∧
  (xs = [] ∨ k = 1 → Q (.ref l) H) ∧ (xs ≠ [] → k ≠ 1 → ∀ p, H p = none → Q (.ref p) (upd H p (.tup (List.replicate k.toNat xs).flatten)))
theorem op_repA {X : Cx} : OpR X (binaryOp .Mult) (rRepA X.K) := by
  intro pins s σ H x y v u Q I rx ry h
  obtain ⟨l, k, xs, rfl, rfl, hT, h1, h2, hz, q1, q2⟩ := h
  by_cases hbig : xs ≠ [] ∧ 2 ≤ k
  · exact op_repT pins s σ H _ _ v u Q I rx ry ⟨l, k, xs, rfl, rfl, hT, hbig.1, hbig.2, h2, hz, q2 hbig.1 (by omega)⟩
  cases rx
  obtain ⟨t, rfl⟩ := ry
  obtain ⟨its, r, ⟨⟨cls, dd, data, sl⟩, ho, hc, n, hd⟩, hs⟩ := I.tuple hT
  simp only at hc hd
  subst hc hd
  have hle : its.length = xs.length := r.length.symm
  have c0 : (decide (k < -(2 ^ 63)) || decide (k ≥ 2 ^ 63)) = false := by
    rw [decide_eq_false (by omega), decide_eq_false (by omega)] <;> rfl
  have emp : its.toArray.isEmpty = decide (xs = []) := by
    cases its with
    | nil => cases r; rfl
    | cons a b => cases r; rfl
  by_cases hsame : xs = [] ∨ k = 1
  · have c1 : (its.toArray.isEmpty || k == 1) = true := by
      rw [emp]
      rcases hsame with h | h
      · simp [h]
      · simp [h]
    exact wpAny_binaryOp_repeat_ref (T := "tuple") (U := "int") (by decide) ⟨_, ho, rfl⟩ (fun s' => typeIs_int s' k t) noFill_tuple_mul F.fills_int_mul F.slot_int_rmul repeat_tuple F.slot_int_index.lookup
      (call_meets F.slot_int_rmul (typeIs_int s k t) F.entry_int_rmul (F.args_int_rmul_2 _ _) (int_rmul_tuple k t l its.toArray n dd sl)
        ⟨ho, rfl, ⟨_, ho, rfl⟩, call_meets F.slot_tuple_mul ⟨_, ho, rfl⟩ F.entry_tuple_mul (F.args_tuple_mul_2 _ _) (tk_mulSame l its.toArray n dd sl k t c0 c1) ⟨ho, ⟨.ref l, H, I, rfl, q1 hsame⟩⟩⟩)
  · have hne : xs ≠ [] := fun e => hsame (.inl e)
    have hk1 : k ≠ 1 := fun e => hsame (.inr e)
    have hk0 : k ≤ 0 := by
      have : ¬ 2 ≤ k := fun e => hbig ⟨hne, e⟩
      omega
    have c1 : (its.toArray.isEmpty || k == 1) = false := by
      rw [emp, decide_eq_false hne, Bool.false_or]
      exact beq_eq_false_iff_ne.mpr hk1
    have c2 : (decide (k ≤ 0) || its.toArray.isEmpty) = true := by rw [decide_eq_true hk0]; rfl
    refine wpAny_binaryOp_repeat_ref (T := "tuple") (U := "int") (by decide) ⟨_, ho, rfl⟩ (fun s' => typeIs_int s' k t) noFill_tuple_mul F.fills_int_mul F.slot_int_rmul repeat_tuple F.slot_int_index.lookup
      (call_meets F.slot_int_rmul (typeIs_int s k t) F.entry_int_rmul (F.args_int_rmul_2 _ _) (int_rmul_tuple k t l its.toArray n dd sl)
        ⟨ho, rfl, ⟨_, ho, rfl⟩, call_meets F.slot_tuple_mul ⟨_, ho, rfl⟩ F.entry_tuple_mul (F.args_tuple_mul_2 _ _) (tk_mulNone l its.toArray n dd sl k t c0 c1 c2) ⟨ho, ?_⟩⟩)
    have hk : k.toNat = 0 := by omega
    have q := q2 hne hk1 s.heap.objs.size (I.hok.fresh (Nat.le_refl _))
    rw [hk] at q
    refine ⟨.ref s.heap.objs.size, _, I.laid (t' := s.toks) (o := .tup []) (fun b ob q => Heap.get?_push_of_some _ q) (Nat.le_refl _) ?_, rfl, q⟩
    exact ⟨Nat.zero_le _, [], .nil, IsTup.new _ _⟩

/-- X(), X an own exception class without own __init__ -/
theorem pmk_ownN {X : Cx} {pos : Pos} {C : Addr} {bmB : List Value} {B newId initId : String} {x : Str} {p : Pos} (F : ExcBaseFacts B newId initId bmB) (q : PySem.W.excIn X.K C bmB newId = true) (gC : X.mg x = some (.ref C))
    (kC : PySem.W.keepIn X.K (.ref C) = true) (r : Raises X (.ref C)) (hg : Gl X x) (hdb : (x == ("__debug__" : Str)) = false := by decide) :
    PMk X (.Call (.Name x p) [] [] pos) (fun σ H Q => Q (.ref C) none H) := by
  intro pins s σ H Q I h
  refine wpAny_Call_Name_kw (ld_glob I hg gC ?_ hdb)
  refine PySem.W.callWith_K0 I.kIn kC ?_
  show wpAny _ _ (call (.ref C) []) _ _ _
  obtain ⟨bm, N, nm, qn, bs, hdct, sn, sub, ab, col, dd, k0, k1, k2, k3, k5, mN, hC, hN, hni, T⟩ := exc_obj I.kIn q
  refine wpAny_call_exc_subT F T hC hN hni (fun h' e hm => ?_) (by show 0 ≤ sizeLine; exact Nat.zero_le _)
  exact mk_of I hm r h (I.hok.gone hm.new)
end L2

set_option Elab.async false
set_option linter.all false
set_option maxRecDepth 100000
set_option maxHeartbeats 4000000
namespace PySem
open Sem (wp)
open AutoSeq1 (wpAny_loadPart')
theorem tk_enum_newT (l : Addr) (items : Array Value) (n : Nat) (dct : Option Addr) (sl : Array (Option Value)) :
    Meets (Builtin.«enumerate.__new__» ⟨[.type "enumerate", .ref l], []⟩) (fun _ R s => s.heap.get? l = some { cls := .type "tuple", dict := dct, data := .seq items n, slots := sl } ∧
      R (.ok (.ret (.ref (s.heap.push { cls := .type "tuple_iterator", data := .fields #[.ref l, .int 0 0] }).objs.size)))
        { s with heap := (s.heap.push { cls := .type "tuple_iterator", data := .fields #[.ref l, .int 0 0] }).push { cls := .type "enumerate", data := .fields #[.none, .bool false, .ref s.heap.objs.size, rawInt 0, .none, .none] } }) :=
  .of_wp fun prog w A R s h => by
    obtain ⟨hp, g, d, tk, os⟩ := s; obtain ⟨hl, h⟩ := h
    have hsub := sub_enumerate
    have hL : Heap.IsTuple (Shared.heap ⟨hp, g, d, tk, os⟩) l items := ⟨_, hl, rfl, n, rfl⟩
    wp_walk using wpAny_loadPart' hl
    refine wpAny_stack_any fun st => wpAny_pure ?_
    split
    · rename_i c _ _ _ _ _
      cases (c == Value.type "enumerate")
      · wp_walk using wpAny_loadPart' hl, wpAny_pyIter_tuple hL
        exact ⟨_, rfl, h⟩
      · wp_walk using wpAny_loadPart' hl, wpAny_pyIter_tuple hL
        exact ⟨_, rfl, h⟩
    · wp_walk using wpAny_loadPart' hl, wpAny_pyIter_tuple hL
      exact ⟨_, rfl, h⟩
section
variable {prog : Program} {w : World} {A : Around} {E : Value → Shared → Prop} {s : Shared}
theorem tk_call_enumT {l : Addr} {items : Array Value} {Q : Value → Shared → Prop} (hL : s.heap.IsTuple l items)
    (h : ∀ h', IsEnum h' (s.heap.objs.size + 1) s.heap.objs.size 0 .none → h'.IsTupleIter s.heap.objs.size l 0 → h'.objs.size = s.heap.objs.size + 2 →
      (∀ b o, s.heap.get? b = some o → h'.get? b = some o) → Q (.ref (s.heap.objs.size + 1)) { s with heap := h' }) :
    wpAny (model prog w) A (call (.type "enumerate") [.ref l]) Q E s := by
  obtain ⟨⟨c, dct, dt, sl⟩, hl, hc, n, hd⟩ := hL
  replace hc : c = .type "tuple" := hc
  replace hd : dt = .seq items n := hd
  subst hc hd
  refine callType_new F.called_enumerate (by decide) (F.typeCall_enumerate_1 _) (F.newCall_enumerate_1 _) (fun obj => F.args_object_init_2 obj _) F.entry_enumerate_new
    (tk_enum_newT l items n dct sl) ⟨hl, ?_⟩
  have hz : (s.heap.push { cls := .type "tuple_iterator", data := .fields #[.ref l, .int 0 0] }).objs.size = s.heap.objs.size + 1 := Heap.size_push ..
  show _ ∧ _
  rw [hz]
  have he : IsEnum ((s.heap.push { cls := .type "tuple_iterator", data := .fields #[.ref l, .int 0 0] }).push
      { cls := .type "enumerate", data := .fields #[.none, .bool false, .ref s.heap.objs.size, rawInt 0, .none, .none] }) (s.heap.objs.size + 1) s.heap.objs.size 0 .none := by
    have := Heap.get?_push_size (s.heap.push { cls := .type "tuple_iterator", data := .fields #[.ref l, .int 0 0] })
      (o := { cls := .type "enumerate", data := .fields #[.none, .bool false, .ref s.heap.objs.size, rawInt 0, .none, .none] }) rfl
    rw [hz] at this; exact this
  refine ⟨⟨_, he, rfl⟩, h _ he ⟨_, Heap.get?_push_of_some _ (Heap.get?_push_size _ rfl), rfl, rfl⟩ (by rw [Heap.size_push, hz]) fun b o x => Heap.get?_push_of_some _ (Heap.get?_push_of_some _ x)⟩
end
end PySem
namespace L2
open PySem PySem.Spec PyProof.Rows
def IteT (K : PySem.W.Frag) (a : Addr) : It :=
  ⟨fun i H => ∃ (xs : List V) (x : V), SqT K H a xs ∧ xs[i]? = some x, fun i H v H' => ∃ T x, v = .ref T ∧ H T = none ∧ H' = upd H T (.tup [.int (i : Nat), x]) ∧ ∀ xs, SqT K H a xs → xs[i]? = some x, fun i H => ∃ xs : List V, SqT K H a xs ∧ xs.length ≤ i⟩
theorem turn_enumT {P : Program} {w : World} {K : PySem.W.Frag} {elts : List Expr} {kk : Nat} {tpos : Pos} (a e it : Addr) :
    Turn P w K (.Tuple elts kk tpos) (IteT K a) [e, it] e (fun i h => (∃ old, IsEnum h e it ((i : Nat) : Int) old) ∧ h.IsTupleIter it a i ∧ e ≠ it) where
  mem := by simp
  obj := fun i h st b hb => by
    obtain ⟨⟨old, he⟩, ⟨o, ho, hc, hd⟩, _⟩ := st
    have e' : b = e ∨ b = it := by simpa using hb
    rcases e' with z | z
    · rw [z]; exact ⟨_, he, fun v q => nomatch q⟩
    · rw [z]; exact ⟨o, ho, fun v q => by rw [hd] at q; cases q⟩
  keep := fun i h h' st k => let ⟨⟨old, he⟩, hi, hne⟩ := st; ⟨⟨old, k e (by simp) _ he⟩, hi.at fun o q => k it (by simp) o q, hne⟩
  item := by
    intro X hP hw hK hc i pins s σ H E I hf st hg
    subst hP hw hK
    obtain ⟨⟨old, he⟩, hit, hne⟩ := st
    obtain ⟨xs, x, hq, hx⟩ := hg
    obtain ⟨its, rv, p, hz⟩ := I.tuple hq
    obtain ⟨u, hu, ru⟩ := rv.get hx
    have hel : e < s.heap.objs.size := Heap.lt_size he
    have hil : it < s.heap.objs.size := by obtain ⟨_, q, _⟩ := hit; exact Heap.lt_size q
    have hil' : i < its.toArray.size := by simpa using (List.getElem?_eq_some_iff.mp hu).1
    have pT : s.heap.IsTuple a its.toArray := p
    have hait : a ≠ it := fun z => by
      obtain ⟨o, q, c, d⟩ := hit
      obtain ⟨o2, q2, c2, _⟩ := p
      rw [z, q] at q2; cases q2
      rw [c] at c2; simp at c2
    have hae : a ≠ e := fun z => by
      obtain ⟨o2, q2, c2, _⟩ := p
      have q := he
      unfold IsEnum at q
      rw [z, q] at q2; cases q2
      simp at c2
    refine wpAny_pyNext_enum_itemD (Draws.tuple (A := X.A.in1) (I.ok.hd hc) it a hait its.toArray) he ⟨hit, pT⟩ hil' hne (by simp [hne, Ne.symm hae]) fun y h' tk hy ho hst' hT hsz hk => ?_
    have ey : y = u := by
      have : its.toArray[i]? = some u := by simpa using hu
      rw [this] at hy; exact (Option.some.inj hy).symm
    subst ey
    refine ⟨_, rfl, wpAny_letOwnedTupleGo_enum (s := { s with heap := h', toks := tk + 1 }) ho fun h'' he' sb => ?_⟩
    have hT2 : h''.get? s.heap.objs.size = some { cls := .type "tuple", data := .seq #[.int i tk, y] } := (sb.2 _ (Nat.ne_of_gt hel)).trans hT
    have new : ObjOk X.prog X.w (upd H s.heap.objs.size (.tup [.int (i : Nat), x])) h'' s.heap.objs.size (.tup [.int (i : Nat), x]) :=
      ⟨by show 2 ≤ sizeLine; decide, [.int i tk, y], .cons ⟨_, rfl⟩ (.cons ru .nil), ⟨_, hT2, rfl, _, rfl⟩⟩
    have I1 : Inv X pins σ (upd H s.heap.objs.size (.tup [.int (i : Nat), x])) { s with heap := h'', toks := tk + 1 } :=
      I.turnedNew (ch := [e, it]) (fun b ob hb q => (sb.2 b (fun z => hb (by simp [z]))).trans (hk b ob (fun z => hb (by simp [z])) (fun z => hb (by simp [z])) q)) hf (Nat.le_refl _) new
    refine ⟨.ref s.heap.objs.size, _, I1, rfl, ⟨_, x, rfl, I.hok.fresh (Nat.le_refl _), rfl, fun ys hy => by rw [I.tuple_inj hy hq]; exact hx⟩, ⟨⟨y, ?_⟩, hst'.1.at fun o q => (sb.2 it (Ne.symm hne)).trans q, hne⟩, fun b hb => ?_⟩
    · have e1 : ((i + 1 : Nat) : Int) = (i : Int) + 1 := by omega
      rw [e1]; exact he'
    · have hb' : b < s.heap.objs.size := by
        have e' : b = e ∨ b = it := by simpa using hb
        rcases e' with z | z
        · rw [z]; exact hel
        · rw [z]; exact hil
      rw [upd_ne (Nat.ne_of_lt hb')]
      exact (hf b hb).1
  done := by
    intro X hP hw hK hc i pins s σ H E I hf st hg
    subst hP hw hK
    obtain ⟨⟨old, he⟩, hit, hne⟩ := st
    obtain ⟨xs, hq, hx⟩ := hg
    obtain ⟨its, rv, p, hz⟩ := I.tuple hq
    obtain ⟨f0, f1, f2, f3, f4, f5⟩ := hf it (by simp)
    have hl := rv.length
    have pT : s.heap.IsTuple a its.toArray := p
    have hT : s.TypeIs (.ref e) "enumerate" := ⟨_, he, rfl⟩
    unfold pyNext
    refine wpAny_bind (wpAny_attempt (wpAny_callSpecial?_slot (name := Str.ofString "__next__") hT F.slot_enumerate_next
      (wpAny_call_entry F.slot_enumerate_next hT F.entry_enumerate_next ?_ (F.args_enumerate_next_1 _))))
    show wpAny _ _ (field (.ref e) 2 >>= _) _ _ _
    refine wpAny_bind (wpAny_field he rfl (x := .ref it) rfl ?_)
    refine wpAny_bind (wpAny_nextOf_tuple_end (I.ok.hd hc) hit pT (by simp; omega) fun h' x he' hx' => ?_)
    obtain ⟨o, ho, hcl⟩ := hx'
    refine wpAny_bind (wpAny_isInstance (T := "StopIteration") (b := true) ⟨o, ho, hcl⟩ isSubtype_stop ?_)
    exact wpAny_pure ⟨rfl, I.turned (t' := s.toks) (fun b o hb q => he' b o hb q) f0 f1 f3 f4 f5⟩
  self := fun A i s Q E st h => let ⟨⟨_, he⟩, _⟩ := st; wpAny_pyIter_enum he h
def iEnumA (K : PySem.W.Frag) (ta : TA) : TI := fun σ H R => ta σ H fun vs H1 => ∃ a xs, vs = [.ref a] ∧ ((SqL K H1 a xs ∧ R (Ite K a) H1) ∨ (SqT K H1 a xs ∧ R (IteT K a) H1))
theorem pi_enumA {X : Cx} {e : Expr} {ta : TA} {p pos tpos : Pos} {elts : List Expr} {kk : Nat} (hg : Gl X "enumerate") (hm : X.mg "enumerate" = none) (ha : PA X [e] ta) (hs : starEach [e] X.env = [(false, eval e X.env)] := by rfl) :
    PI X (.Tuple elts kk tpos) (.Call (.Name "enumerate" p) [e] [] pos) (iEnumA X.K ta) := by
  refine ⟨fun pins s σ H R I h => ?_⟩
  refine Call_ (ld_blt I hg hm boot_enumerate (PyProof.Rows.callWith_type1 (thn (ha.run pos pins s σ H _ I h) fun us s1 ⟨vs, H1, I1, r1, q1⟩ => ?_) hs rfl))
  obtain ⟨a, xs, ex, q⟩ := q1
  subst ex
  cases r1 with
  | cons r rr =>
    cases rr
    cases r
    have foot : ∀ {h' : Heap} (I2 : Inv X pins σ H1 { s1 with heap := h' }) (b : Addr), b ∈ [s1.heap.objs.size + 1, s1.heap.objs.size] → FpOk X pins H1 b := fun I2 b hb => by
      have hle : s1.heap.objs.size ≤ b := by
        have e' : b = s1.heap.objs.size + 1 ∨ b = s1.heap.objs.size := by simpa using hb
        rcases e' with z | z
        · rw [z]; exact Nat.le_succ _
        · rw [z]; exact Nat.le_refl _
      exact I1.fpOk hle (I1.hok.fresh hle)
    rcases q with ⟨hq, q⟩ | ⟨hq, q⟩
    · obtain ⟨its, rv, p', hz⟩ := I1.list hq
      refine call_enumerate_list p'.isList fun h' he hit hsz hk => wpAny_pyIter_enum he ?_
      have I2 : Inv X pins σ H1 { s1 with heap := h' } := I1.kept (t' := s1.toks) hk
      exact ⟨s1.heap.objs.size + 1, [s1.heap.objs.size + 1, s1.heap.objs.size], _, _, H1, rfl, I2, turn_enum a (s1.heap.objs.size + 1) s1.heap.objs.size, ⟨⟨.none, he⟩, hit, Nat.succ_ne_self _⟩, foot I2, q⟩
    · obtain ⟨its, rv, p', hz⟩ := I1.tuple hq
      refine tk_call_enumT (show s1.heap.IsTuple a its.toArray from p') fun h' he hit hsz hk => wpAny_pyIter_enum he ?_
      have I2 : Inv X pins σ H1 { s1 with heap := h' } := I1.kept (t' := s1.toks) hk
      exact ⟨s1.heap.objs.size + 1, [s1.heap.objs.size + 1, s1.heap.objs.size], _, _, H1, rfl, I2, turn_enumT a (s1.heap.objs.size + 1) s1.heap.objs.size, ⟨⟨.none, he⟩, hit, Nat.succ_ne_self _⟩, foot I2, q⟩
end L2

set_option Elab.async false
set_option linter.all false
set_option maxRecDepth 100000
set_option maxHeartbeats 4000000
namespace TK
open PySem PySem.Spec
open PyProof.Rows hiding St
open L2

/-! ## plain data, a plain store -/
theorem hideE {α : Type} (x : α) : ∃ y, y = x := ⟨x, rfl⟩
/-- a term that no check by computing looks into -/
noncomputable def hid {α : Type} (x : α) : α := Classical.choose (hideE x)
theorem hid_eq {α : Type} (x : α) : hid x = x := Classical.choose_spec (hideE x)
inductive D where
  | non | bl (b : Bool) | int (i : Int) | str (x : Str) | tup (xs : List D) | ref (n : Nat) | cls (x : Str)
inductive AO where
  | lst (xs : List D) | rol (xs : List D) | ins (c : Str) (fs : List (Str × D)) | dct (kvs : List (D × D)) | dcT (kvs : List (D × D))
abbrev Store := List AO
abbrev AEnv := List (Option D)
structure EX where
  cls : Str
  fs : List (Str × D)
inductive R (α : Type) where
  | ok (a : α) (st : Store) | exc (x : EX) (st : Store) | bad
namespace R
def bind {α β : Type} (r : R α) (g : α → Store → R β) : R β := match r with
  | .ok a st => g a st
  | .exc x st => .exc x st
  | .bad => .bad
@[simp] theorem bind_ok {α β : Type} (a : α) (st : Store) (g : α → Store → R β) : (R.ok a st).bind g = g a st := rfl
@[simp] theorem bind_exc {α β : Type} (x : EX) (st : Store) (g : α → Store → R β) : (R.exc x st : R α).bind g = .exc x st := rfl
@[simp] theorem bind_bad {α β : Type} (g : α → Store → R β) : (R.bad : R α).bind g = .bad := rfl
end R
inductive RS where
  | next (env : AEnv) (st : Store) | ret (d : D) (st : Store) | brk (env : AEnv) (st : Store) | cont (env : AEnv) (st : Store) | exc (env : AEnv) (x : EX) (st : Store) | bad

/-- what a text's names stand for -/
structure GX where
  K : PySem.W.Frag
  mg : Str → Option Value
abbrev gx (X : Cx) : GX := ⟨X.K, X.mg⟩

/-! ## how plain data stand in the heap -/
section
variable (G : GX) (μ : List Addr) (H : Hp)
mutual
def RelD : D → V → Prop
  | .non, v => v = .non
  | .bl b, v => v = .bl b
  | .int i, v => v = .int i
  | .str x, v => v = .str x
  | .tup ds, v => ∃ a vs, v = .ref a ∧ H a = some (.tup vs) ∧ RelDs ds vs
  | .ref n, v => ∃ a, μ[n]? = some a ∧ v = .ref a
  | .cls x, v => ∃ a, G.mg x = some (.ref a) ∧ v = .ref a
def RelDs : List D → List V → Prop
  | [], vs => vs = []
  | d :: ds, vs => ∃ v r, vs = v :: r ∧ RelD d v ∧ RelDs ds r
end
def RelF : List (Str × D) → List (Str × V) → Prop
  | [], vs => vs = []
  | (x, d) :: fs, vs => ∃ v r, vs = (x, v) :: r ∧ RelD G μ H d v ∧ RelF fs r
/-- keys: ints and texts -/
def keyS : D → Option Key
  | .int i => some (.inl i)
  | .str x => some (.inr x)
  | _ => none
def keySs : List D → Option (List Key)
  | [] => some []
  | d :: ds => match keyS d, keySs ds with
    | some k, some ks => some (k :: ks)
    | _, _ => none
def keyT : D → Option (List Key)
  | .tup ds => keySs ds
  | _ => none
def RelK {κ : Type} (f : D → Option κ) : List (D × D) → List (κ × V) → Prop
  | [], vs => vs = []
  | (k, d) :: kvs, vs => ∃ c v r, vs = (c, v) :: r ∧ f k = some c ∧ RelD G μ H d v ∧ RelK f kvs r
def HObj : AO → HO → Prop
  | .lst ds, o => ∃ vs, o = .lst vs ∧ RelDs G μ H ds vs
  | .rol ds, o => ∃ ob vs, o = .frz ob (.lst vs) ∧ RelDs G μ H ds vs
  | .ins c fs, o => ∃ C dx vs, o = .ins C dx vs ∧ G.mg c = some (.ref C) ∧ RelF G μ H fs vs
  | .dct kvs, o => ∃ ks, o = .dK ks ∧ RelK G μ H keyS kvs ks
  | .dcT kvs, o => ∃ ks, o = .dT ks ∧ RelK G μ H keyT kvs ks
end
structure HS (G : GX) (μ : List Addr) (H : Hp) (st : Store) : Prop where
  nd : μ.Nodup
  len : μ.length = st.length
  obj : ∀ (i : Nat) (a : Addr) (o : AO), μ[i]? = some a → st[i]? = some o → ∃ ho, H a = some ho ∧ HObj G μ H o ho
/-- later: more objects; what is not in the store stands as it stood -/
def Ext (μ : List Addr) (H : Hp) (μ' : List Addr) (H' : Hp) : Prop :=
  ∃ ν, μ' = μ ++ ν ∧ (∀ a ∈ ν, H a = none ∧ a ∉ μ) ∧ ∀ a o, H a = some o → a ∉ μ → H' a = some o
def EnvR (G : GX) (μ : List Addr) (H : Hp) (env : AEnv) (σ : St) : Prop :=
  env.length = σ.length ∧ ∀ (i : Nat) (d : D), env[i]? = some (some d) → ∃ v, σ[i]? = some (some v) ∧ RelD G μ H d v

section
variable {G : GX} {μ μ' μ1 μ2 : List Addr} {H H' H1 H2 : Hp} {st st' : Store} {env : AEnv} {σ : St}
theorem Ext.refl : Ext μ H μ H := ⟨[], by simp, by simp, fun _ _ h _ => h⟩
theorem Ext.trans (a : Ext μ H μ1 H1) (b : Ext μ1 H1 μ2 H2) : Ext μ H μ2 H2 := by
  obtain ⟨ν, rfl, f1, k1⟩ := a
  obtain ⟨ν', rfl, f2, k2⟩ := b
  refine ⟨ν ++ ν', by simp, fun c hc => ?_, fun c o hc hn => ?_⟩
  · rcases List.mem_append.mp hc with h | h
    · exact f1 c h
    · have hm : c ∉ μ := fun z => (f2 c h).2 (List.mem_append_left _ z)
      refine ⟨?_, hm⟩
      cases q : H c with
      | none => rfl
      | some o =>
        have := k1 c o q hm
        rw [(f2 c h).1] at this; cases this
  · refine k2 c o (k1 c o hc hn) fun hm => ?_
    rcases List.mem_append.mp hm with h | h
    · exact hn h
    · rw [(f1 c h).1] at hc; cases hc
theorem HObj.noTup {o : AO} {ho : HO} (h : HObj G μ H o ho) : ∀ xs, ho ≠ .tup xs ∧ ∀ ob, ho ≠ .frz ob (.tup xs) := by
  intro xs
  cases o with
  | lst ds => obtain ⟨vs, rfl, _⟩ := h; exact ⟨by simp, by simp⟩
  | rol ds => obtain ⟨ob, vs, rfl, _⟩ := h; exact ⟨by simp, by simp⟩
  | ins c fs => obtain ⟨C, dx, vs, rfl, _⟩ := h; exact ⟨by simp, by simp⟩
  | dct kvs => obtain ⟨ks, rfl, _⟩ := h; exact ⟨by simp, by simp⟩
  | dcT kvs => obtain ⟨ks, rfl, _⟩ := h; exact ⟨by simp, by simp⟩
theorem HS.at (h : HS G μ H st) {i : Nat} {a : Addr} (e : μ[i]? = some a) : ∃ o ho, st[i]? = some o ∧ H a = some ho ∧ HObj G μ H o ho := by
  have hi : i < st.length := by rw [← h.len]; exact (List.getElem?_eq_some_iff.mp e).1
  obtain ⟨ho, e1, e2⟩ := h.obj i a st[i] e (by simp)
  exact ⟨st[i], ho, by simp, e1, e2⟩
theorem HS.noTup (h : HS G μ H st) {a : Addr} {xs : List V} (r : Rd H a (.tup xs)) : a ∉ μ := fun hm => by
  obtain ⟨i, hi, e⟩ := List.getElem_of_mem hm
  obtain ⟨o, ho, _, e1, e2⟩ := h.at (i := i) (a := a) (by rw [List.getElem?_eq_getElem hi, e])
  have := e2.noTup xs
  rcases r with r | ⟨ob, r⟩
  · rw [e1] at r; exact this.1 (Option.some.inj r)
  · rw [e1] at r; exact this.2 ob (Option.some.inj r)
theorem SqT_ext (h : HS G μ H st) (e : Ext μ H μ' H') {a : Addr} {vs : List V} (q : SqT G.K H a vs) : SqT G.K H' a vs := by
  obtain ⟨ν, _, _, k⟩ := e
  rcases q with q | q
  · have hn := h.noTup q
    rcases q with q | ⟨ob, q⟩
    · exact .inl (.inl (k a _ q hn))
    · exact .inl (.inr ⟨ob, k a _ q hn⟩)
  · exact .inr q
theorem Tup_ext (h : HS G μ H st) (e : Ext μ H μ' H') {a : Addr} {vs : List V} (q : H a = some (.tup vs)) : H' a = some (.tup vs) := by
  obtain ⟨ν, _, _, k⟩ := e
  exact k a _ q (h.noTup (.inl q))
mutual
theorem RelD.ext (h : HS G μ H st) (e : Ext μ H μ' H') : ∀ (d : D) (v : V), RelD G μ H d v → RelD G μ' H' d v
  | .non, _, r => r
  | .bl _, _, r => r
  | .int _, _, r => r
  | .str _, _, r => r
  | .tup ds, _, r => by
    obtain ⟨a, vs, e1, q, rs⟩ := r
    exact ⟨a, vs, e1, Tup_ext h e q, RelDs.ext h e ds vs rs⟩
  | .ref n, _, r => by
    obtain ⟨a, e1, e2⟩ := r
    obtain ⟨ν, rfl, _⟩ := e
    exact ⟨a, by rw [List.getElem?_append_left (List.getElem?_eq_some_iff.mp e1).1]; exact e1, e2⟩
  | .cls _, _, r => r
theorem RelDs.ext (h : HS G μ H st) (e : Ext μ H μ' H') : ∀ (ds : List D) (vs : List V), RelDs G μ H ds vs → RelDs G μ' H' ds vs
  | [], _, r => r
  | d :: ds, _, r => by
    obtain ⟨v, rest, e1, rd, rs⟩ := r
    exact ⟨v, rest, e1, RelD.ext h e d v rd, RelDs.ext h e ds rest rs⟩
end
theorem RelF.ext (h : HS G μ H st) (e : Ext μ H μ' H') : ∀ (fs : List (Str × D)) (vs : List (Str × V)), RelF G μ H fs vs → RelF G μ' H' fs vs
  | [], _, r => r
  | (x, d) :: fs, _, r => by
    obtain ⟨v, rest, e1, rd, rs⟩ := r
    exact ⟨v, rest, e1, RelD.ext h e d v rd, RelF.ext h e fs rest rs⟩
theorem RelK.ext {κ : Type} {f : D → Option κ} (h : HS G μ H st) (e : Ext μ H μ' H') : ∀ (kvs : List (D × D)) (vs : List (κ × V)), RelK G μ H f kvs vs → RelK G μ' H' f kvs vs
  | [], _, r => r
  | (k, d) :: kvs, _, r => by
    obtain ⟨c, v, rest, e1, ek, rd, rs⟩ := r
    exact ⟨c, v, rest, e1, ek, RelD.ext h e d v rd, RelK.ext h e kvs rest rs⟩
theorem HObj.ext (h : HS G μ H st) (e : Ext μ H μ' H') {o : AO} {ho : HO} (r : HObj G μ H o ho) : HObj G μ' H' o ho := by
  cases o with
  | lst ds => obtain ⟨vs, e1, rs⟩ := r; exact ⟨vs, e1, RelDs.ext h e ds vs rs⟩
  | rol ds => obtain ⟨ob, vs, e1, rs⟩ := r; exact ⟨ob, vs, e1, RelDs.ext h e ds vs rs⟩
  | ins c fs => obtain ⟨C, dx, vs, e1, m, rs⟩ := r; exact ⟨C, dx, vs, e1, m, RelF.ext h e fs vs rs⟩
  | dct kvs => obtain ⟨ks, e1, rs⟩ := r; exact ⟨ks, e1, RelK.ext h e kvs ks rs⟩
  | dcT kvs => obtain ⟨ks, e1, rs⟩ := r; exact ⟨ks, e1, RelK.ext h e kvs ks rs⟩
theorem EnvR.ext (h : HS G μ H st) (e : Ext μ H μ' H') (r : EnvR G μ H env σ) : EnvR G μ' H' env σ :=
  ⟨r.1, fun i d q => let ⟨v, e1, rd⟩ := r.2 i d q; ⟨v, e1, RelD.ext h e d v rd⟩⟩
theorem EnvR.set (r : EnvR G μ H env σ) {d : D} {v : V} (rd : RelD G μ H d v) (i : Nat) : EnvR G μ H (env.set i (some d)) (σ.set i (some v)) := by
  refine ⟨by simp [r.1], fun j d' q => ?_⟩
  by_cases hj : i = j
  · subst hj
    have hi : i < env.length := by
      by_cases hi : i < env.length
      · exact hi
      · rw [List.getElem?_eq_none (by simp; omega)] at q; cases q
    rw [List.getElem?_set_self hi] at q
    cases q
    exact ⟨v, by rw [List.getElem?_set_self (by rw [← r.1]; exact hi)], rd⟩
  · rw [List.getElem?_set_ne hj] at q
    obtain ⟨v', e1, rd'⟩ := r.2 j d' q
    exact ⟨v', by rw [List.getElem?_set_ne hj]; exact e1, rd'⟩
end

/-! ## ends -/
def RelX (G : GX) (μ : List Addr) (H : Hp) (x : EX) (C : Value) (od : Option Addr) : Prop :=
  ∃ a, G.mg x.cls = some (.ref a) ∧ C = .ref a ∧ match od with
    | none => x.fs = []
    | some dx => x.fs ≠ [] ∧ dx ∉ μ ∧ ∃ vs, H dx = some (.xd vs) ∧ RelF G μ H x.fs vs
/-- a result's relation: seen from an earlier heap too -/
structure RelT (α β : Type) where
  r : Hp → List Addr → Hp → α → β → Prop
  back : ∀ {μ H μ1 H1 μ2 H2 a y}, Ext μ H μ1 H1 → Ext μ1 H1 μ2 H2 → r H1 μ2 H2 a y → r H μ2 H2 a y
def Post {α β : Type} (G : GX) (W : WX) (rel : RelT α β) (σ : St) (μ : List Addr) (H : Hp) (r : R α) (Q : β → Hp → Prop) : Prop :=
  match r with
  | .ok a st' => ∀ μ' H' y, Ext μ H μ' H' → HS G μ' H' st' → rel.r H μ' H' a y → Q y H'
  | .exc x st' => ∀ μ' H' C od, Ext μ H μ' H' → HS G μ' H' st' → RelX G μ' H' x C od → W C od σ H'
  | .bad => False
def PostS (G : GX) (W : WX) (μ : List Addr) (H : Hp) (r : RS) (Dn : Ends) : Prop :=
  match r with
  | .next env' st' => ∀ μ' H' σ', Ext μ H μ' H' → HS G μ' H' st' → EnvR G μ' H' env' σ' → Dn.nx σ' H'
  | .brk env' st' => ∀ μ' H' σ', Ext μ H μ' H' → HS G μ' H' st' → EnvR G μ' H' env' σ' → Dn.bk σ' H'
  | .cont env' st' => ∀ μ' H' σ', Ext μ H μ' H' → HS G μ' H' st' → EnvR G μ' H' env' σ' → Dn.ct σ' H'
  | .ret d st' => ∀ μ' H' v, Ext μ H μ' H' → HS G μ' H' st' → RelD G μ' H' d v → Dn.rt v H'
  | .exc env' x st' => ∀ μ' H' σ' C od, Ext μ H μ' H' → HS G μ' H' st' → EnvR G μ' H' env' σ' → RelX G μ' H' x C od → W C od σ' H'
  | .bad => False
section
variable {α β γ δ : Type} {G : GX} {W : WX} {rel : RelT α β} {rel2 : RelT γ δ} {μ μ' : List Addr} {H H' : Hp} {σ : St}
theorem Post.later {r : R α} {Q : β → Hp → Prop} (h : Post G W rel σ μ H r Q) (e : Ext μ H μ' H') : Post G W rel σ μ' H' r Q := by
  cases r with
  | ok a st => exact fun μ2 H2 y e2 hs rl => h μ2 H2 y (e.trans e2) hs (rel.back e e2 rl)
  | exc x st => exact fun μ2 H2 C od e2 hs rl => h μ2 H2 C od (e.trans e2) hs rl
  | bad => exact h
theorem Post.mono {r : R α} {Q Q' : β → Hp → Prop} (h : Post G W rel σ μ H r Q) (k : ∀ y H', Q y H' → Q' y H') : Post G W rel σ μ H r Q' := by
  cases r with
  | ok a st => exact fun μ2 H2 y e2 hs rl => k _ _ (h μ2 H2 y e2 hs rl)
  | exc x st => exact h
  | bad => exact h
theorem Post.bind {r : R α} {g : α → Store → R γ} {Q : δ → Hp → Prop} {Q1 : β → Hp → Prop} (h : Post G W rel2 σ μ H (r.bind g) Q)
    (k : ∀ x st1 μ1 H1 y, r = .ok x st1 → Ext μ H μ1 H1 → HS G μ1 H1 st1 → rel.r H μ1 H1 x y → Post G W rel2 σ μ1 H1 (g x st1) Q → Q1 y H1) : Post G W rel σ μ H r Q1 := by
  cases r with
  | ok a st => exact fun μ2 H2 y e2 hs rl => k a st μ2 H2 y rfl e2 hs rl (Post.later h e2)
  | exc x st => exact h
  | bad => exact h
theorem Post.bind0 {r : R α} {g : α → Store → R γ} {Q : δ → Hp → Prop} {Q1 : β → Hp → Prop} (h : Post G W rel2 σ μ H (r.bind g) Q)
    (k : ∀ x st1 μ1 H1 y, r = .ok x st1 → Ext μ H μ1 H1 → HS G μ1 H1 st1 → rel.r H μ1 H1 x y → Post G W rel2 σ μ H (g x st1) Q → Q1 y H1) : Post G W rel σ μ H r Q1 := by
  cases r with
  | ok a st => exact fun μ2 H2 y e2 hs rl => k a st μ2 H2 y rfl e2 hs rl h
  | exc x st => exact h
  | bad => exact h
theorem PostS.later {r : RS} {Dn : Ends} (h : PostS G W μ H r Dn) (e : Ext μ H μ' H') : PostS G W μ' H' r Dn := by
  cases r with
  | next env st => exact fun μ2 H2 y e2 hs rl => h μ2 H2 y (e.trans e2) hs rl
  | brk env st => exact fun μ2 H2 y e2 hs rl => h μ2 H2 y (e.trans e2) hs rl
  | cont env st => exact fun μ2 H2 y e2 hs rl => h μ2 H2 y (e.trans e2) hs rl
  | ret d st => exact fun μ2 H2 y e2 hs rl => h μ2 H2 y (e.trans e2) hs rl
  | exc env x st => exact fun μ2 H2 σ' C od e2 hs er rl => h μ2 H2 σ' C od (e.trans e2) hs er rl
  | bad => exact h
end

/-! ## the judgements -/
def tG {α β : Type} (G : GX) (W : WX) (rel : RelT α β) (f : AEnv → Store → R α) : St → Hp → (β → Hp → Prop) → Prop :=
  fun σ H Q => ∃ μ env st, HS G μ H st ∧ EnvR G μ H env σ ∧ Post G W rel σ μ H (f env st) Q
def tSt (G : GX) (W : WX) (f : AEnv → Store → RS) : TS := fun Dn σ H => ∃ μ env st, HS G μ H st ∧ EnvR G μ H env σ ∧ PostS G W μ H (f env st) Dn
abbrev relB : RelT Bool Bool := ⟨fun _ _ _ a b => b = a, fun _ _ r => r⟩
abbrev relD (G : GX) : RelT D V := ⟨fun _ => RelD G, fun _ _ r => r⟩
abbrev relDs (G : GX) : RelT (List D) (List V) := ⟨fun _ => RelDs G, fun _ _ r => r⟩
theorem Ext.back {μ μ1 μ2 : List Addr} {H H1 H2 : Hp} (x1 : Ext μ H μ1 H1) (x2 : Ext μ1 H1 μ2 H2) {a : Addr} (hn : a ∉ μ2) (h : H1 a = none) : H a = none := by
  obtain ⟨ν, rfl, _, k⟩ := x1
  obtain ⟨ν', rfl, _, _⟩ := x2
  cases q : H a with
  | none => rfl
  | some o =>
    have := k a o q fun z => hn (List.mem_append_left _ (List.mem_append_left _ z))
    rw [h] at this; cases this
/-- a new list that nobody else knows -/
abbrev relL (G : GX) : RelT (List D) V := ⟨fun H0 μ H ds v => ∃ a vs, v = .ref a ∧ H0 a = none ∧ a ∉ μ ∧ H a = some (.lst vs) ∧ RelDs G μ H ds vs, fun x1 x2 ⟨a, vs, e1, e2, e3, e4⟩ => ⟨a, vs, e1, x1.back x2 e3 e2, e3, e4⟩⟩
/-- a list or tuple, read -/
abbrev relQ (G : GX) : RelT (List D) V := ⟨fun _ μ H ds v => ∃ a vs, v = .ref a ∧ (SqL G.K H a vs ∨ H a = some (.tup vs)) ∧ RelDs G μ H ds vs, fun _ _ r => r⟩
abbrev EF := AEnv → Store → R D
abbrev LF := AEnv → Store → R (List D)
abbrev BF := AEnv → Store → R Bool
abbrev SF := AEnv → Store → RS
abbrev AE (X : Cx) (W : WX) (e : Expr) (f : EF) : Prop := PE X e (tG (gx X) W (relD (gx X)) f)
abbrev AL (X : Cx) (W : WX) (e : Expr) (f : LF) : Prop := PE X e (tG (gx X) W (relL (gx X)) f)
abbrev AQ (X : Cx) (W : WX) (e : Expr) (f : LF) : Prop := PE X e (tG (gx X) W (relQ (gx X)) f)
abbrev AT (X : Cx) (W : WX) (e : Expr) (f : BF) : Prop := PT X e (tG (gx X) W relB f)
abbrev AA (X : Cx) (W : WX) (es : List Expr) (f : LF) : Prop := PA X es (tG (gx X) W (relDs (gx X)) f)
abbrev AS (X : Cx) (W : WX) (st : Stmt) (f : SF) : Prop := PS X st (tSt (gx X) W f)
abbrev ASs (X : Cx) (W : WX) (sts : List Stmt) (f : SF) : Prop := PSs X sts (tSt (gx X) W f)
section
variable {X : Cx} {e : Expr} {es : List Expr} {s : Stmt} {ss : List Stmt}
theorem _root_.L2.PE.weak {t t' : TE} (h : PE X e t) (k : ∀ σ H Q, t' σ H Q → t σ H Q) : PE X e t' := ⟨fun pins s σ H Q I q => h.run pins s σ H Q I (k _ _ _ q)⟩
theorem _root_.L2.PT.weak {t t' : TT} (h : PT X e t) (k : ∀ σ H Q, t' σ H Q → t σ H Q) : PT X e t' := ⟨fun pins s σ H Q I q => h.run pins s σ H Q I (k _ _ _ q)⟩
theorem _root_.L2.PW.weak {t t' : TT} (h : PW X e t) (k : ∀ σ H Q, t' σ H Q → t σ H Q) : PW X e t' := ⟨fun wh pins s σ H Q I q => h.run wh pins s σ H Q I (k _ _ _ q)⟩
theorem _root_.L2.PA.weak {t t' : TA} (h : PA X es t) (k : ∀ σ H Q, t' σ H Q → t σ H Q) : PA X es t' := ⟨fun pos pins s σ H Q I q => h.run pos pins s σ H Q I (k _ _ _ q)⟩
theorem _root_.L2.PS.weak {t t' : TS} (h : PS X s t) (k : ∀ Dn σ H, t' Dn σ H → t Dn σ H) : PS X s t' := ⟨fun pins s σ H Dn I q => h.run pins s σ H Dn I (k _ _ _ q)⟩
theorem _root_.L2.PSs.weak {t t' : TS} (h : PSs X ss t) (k : ∀ Dn σ H, t' Dn σ H → t Dn σ H) : PSs X ss t' := ⟨fun pins s σ H Dn I q => h.run pins s σ H Dn I (k _ _ _ q)⟩
end

/-! ## names, constants -/
def eVar (i : Nat) : EF := fun env st => match env[i]? with
  | some (some d) => .ok d st
  | _ => .bad
def eC (d : D) : EF := fun _ st => .ok d st
section
variable {X : Cx} {W : WX} {a b c : Expr} {fa fb fc : EF} {pos : Pos}
theorem ae_var (i : Nat) {x : Str} (hN : X.N[i]? = some x := by rfl) (hv : Vis X.env.scope x := by first | exact Or.inl rfl | exact Or.inr (Or.inl rfl) | exact Or.inr (Or.inr rfl)) (hd : (x == ("__debug__" : Str)) = false := by decide)
    (hcd : (x == ("__classdict__" : Str)) = false := by decide) : AE X W (.Name x pos) (eVar i) := (pe_var hN hv hd hcd).weak fun σ H Q ⟨μ, env, st, hs, er, p⟩ => by
  unfold eVar at p
  split at p
  · rename_i d q
    obtain ⟨v, e1, rd⟩ := er.2 i d q
    exact ⟨v, e1, p μ H v .refl hs rd⟩
  · exact p.elim
theorem ae_const {e : Expr} {v : V} (h : PE X e (tC v)) (d : D) (hd : ∀ μ H, RelD (gx X) μ H d v) : AE X W e (eC d) := h.weak fun σ H Q ⟨μ, env, st, hs, er, p⟩ => p μ H v .refl hs (hd μ H)
theorem ae_int {i j} : AE X W (.Constant (.int i) j pos) (eC (.int i)) := ae_const pe_int _ fun _ _ => rfl
theorem ae_bl {i j} : AE X W (.Constant (.bool i) j pos) (eC (.bl i)) := ae_const pe_bl _ fun _ _ => rfl
theorem ae_non {j} : AE X W (.Constant .none j pos) (eC .non) := ae_const pe_non _ fun _ _ => rfl
theorem ae_str {x j} : AE X W (.Constant (.str x) j pos) (eC (.str x)) := ae_const pe_str _ fun _ _ => rfl
/-- a constant of the module -/
theorem ae_globI {x : Str} {i : Int} {t : Tok} (hg : Gl X x) (hm : X.mg x = some (.int i t)) (hd : (x == ("__debug__" : Str)) = false := by decide) : AE X W (.Name x pos) (eC (.int i)) := ae_const (v := .int i) (pe_glob hg hm (by exact ⟨_, rfl⟩) hd) _ fun _ _ => rfl
theorem ae_globS {x : Str} {z : Str} {t : Tok} (hg : Gl X x) (hm : X.mg x = some (.str z t)) (hd : (x == ("__debug__" : Str)) = false := by decide) : AE X W (.Name x pos) (eC (.str z)) := ae_const (v := .str z) (pe_glob hg hm (by exact ⟨_, rfl⟩) hd) _ fun _ _ => rfl
theorem ae_globC {x : Str} {a : Addr} (hg : Gl X x) (hm : X.mg x = some (.ref a)) (hd : (x == ("__debug__" : Str)) = false := by decide) : AE X W (.Name x pos) (eC (.cls x)) := ae_const (v := .ref a) (pe_glob hg hm (by rfl) hd) _ fun _ _ => ⟨a, hm, rfl⟩

/-! ## two operands -/
def e2 (g : D → D → Store → R D) (fa fb : EF) : EF := fun env st => (fa env st).bind fun x st1 => (fb env st1).bind fun y st2 => g x y st2
def e1 (g : D → Store → R D) (fa : EF) : EF := fun env st => (fa env st).bind fun x st1 => g x st1
/-- an operation on plain data, held by an operation's rule -/
def OpA (G : GX) (g : D → D → Store → R D) (r : R2) : Prop := ∀ W σ μ H st x y v u Q, HS G μ H st → RelD G μ H x v → RelD G μ H y u → Post G W (relD G) σ μ H (g x y st) Q → r v u H Q
def UnA (G : GX) (g : D → Store → R D) (r : V → Hp → VK → Prop) : Prop := ∀ W σ μ H st x v Q, HS G μ H st → RelD G μ H x v → Post G W (relD G) σ μ H (g x st) Q → r v H Q
theorem t2_of {G : GX} {g : D → D → Store → R D} {r : R2} (hg : OpA G g r) {σ : St} {H : Hp} {Q : VK} (h : tG G W (relD G) (e2 g fa fb) σ H Q) :
    tOp r (tG G W (relD G) fa) (tG G W (relD G) fb) σ H Q := by
  obtain ⟨μ, env, st, hs, er, p⟩ := h
  refine ⟨μ, env, st, hs, er, Post.bind p fun x st1 μ1 H1 v _ x1 hs1 r1 p1 => ⟨μ1, env, st1, hs1, er.ext hs x1, Post.bind p1 fun y st2 μ2 H2 u _ x2 hs2 r2 p2 => ?_⟩⟩
  exact hg W σ μ2 H2 st2 x y v u Q hs2 (RelD.ext hs1 x2 x v r1) r2 p2
theorem ae_op {op : Operator} {r : R2} {g : D → D → Store → R D} (ho : OpR X (binaryOp op) r) (hg : OpA (gx X) g r) (ha : AE X W a fa) (hb : AE X W b fb) : AE X W (.BinOp a op b pos) (e2 g fa fb) :=
  (pe_op ho ha hb).weak fun _ _ _ h => t2_of hg h
theorem ae_cmp {op : CmpOp} {r : R2} {g : D → D → Store → R D} (ho : OpR X (compareOp op) r) (hg : OpA (gx X) g r) (ha : AE X W a fa) (hb : AE X W b fb) (hm : behindInMarks op b = false) : AE X W (.Compare a [op] [b] pos) (e2 g fa fb) :=
  (pe_cmpR ho ha hb hm).weak fun _ _ _ h => t2_of hg h
theorem ae_un {op : UnaryOp} {r : V → Hp → VK → Prop} {g : D → Store → R D} (ho : UnR X (unaryOp op) r) (hg : UnA (gx X) g r) (ha : AE X W a fa) : AE X W (.UnaryOp op a pos) (e1 g fa) :=
  (pe_un ho ha).weak fun σ H Q h => by
    obtain ⟨μ, env, st, hs, er, p⟩ := h
    exact ⟨μ, env, st, hs, er, Post.bind p fun x st1 μ1 H1 v _ x1 hs1 r1 p1 => hg W σ μ1 H1 st1 x v Q hs1 r1 p1⟩
end
end TK

set_option Elab.async false
set_option linter.all false
set_option maxRecDepth 100000
set_option maxHeartbeats 4000000
namespace TK
open PySem PySem.Spec
open PyProof.Rows hiding St
open L2

/-! ## lists of related things -/
section
variable {G : GX} {μ : List Addr} {H : Hp}
theorem RelDs.length : ∀ {ds : List D} {vs : List V}, RelDs G μ H ds vs → vs.length = ds.length
  | [], _, r => by cases r; rfl
  | d :: ds, _, r => by obtain ⟨v, rest, rfl, _, rs⟩ := r; simp [RelDs.length rs]
theorem RelDs.get : ∀ {ds : List D} {vs : List V} {i : Nat} {d : D}, RelDs G μ H ds vs → ds[i]? = some d → ∃ v, vs[i]? = some v ∧ RelD G μ H d v
  | [], _, _, _, r, e => by simp at e
  | d :: ds, _, 0, _, r, e => by obtain ⟨v, rest, rfl, rd, rs⟩ := r; simp at e; subst e; exact ⟨v, by simp, rd⟩
  | d :: ds, _, i + 1, x, r, e => by obtain ⟨v, rest, rfl, rd, rs⟩ := r; simpa using RelDs.get rs (by simpa using e)
theorem RelDs.get' : ∀ {ds : List D} {vs : List V} {i : Nat} {v : V}, RelDs G μ H ds vs → vs[i]? = some v → ∃ d, ds[i]? = some d ∧ RelD G μ H d v := fun {ds vs i v} r e => by
  have hl := r.length
  have hi : i < ds.length := by rw [← hl]; exact (List.getElem?_eq_some_iff.mp e).1
  obtain ⟨v', e1, rd⟩ := r.get (i := i) (d := ds[i]) (by simp [hi])
  rw [e] at e1; cases e1
  exact ⟨ds[i], by simp [hi], rd⟩
theorem RelDs.append : ∀ {ds ds' : List D} {vs vs' : List V}, RelDs G μ H ds vs → RelDs G μ H ds' vs' → RelDs G μ H (ds ++ ds') (vs ++ vs')
  | [], _, _, _, r, r' => by cases r; exact r'
  | d :: ds, _, _, _, r, r' => by obtain ⟨v, rest, rfl, rd, rs⟩ := r; exact ⟨v, rest ++ _, rfl, rd, RelDs.append rs r'⟩
theorem RelDs.one {d : D} {v : V} (r : RelD G μ H d v) : RelDs G μ H [d] [v] := ⟨v, [], rfl, r, rfl⟩
theorem RelDs.cons {d : D} {v : V} {ds : List D} {vs : List V} (r : RelD G μ H d v) (rs : RelDs G μ H ds vs) : RelDs G μ H (d :: ds) (v :: vs) := ⟨v, vs, rfl, r, rs⟩
theorem RelDs.set : ∀ {ds : List D} {vs : List V} {d : D} {v : V} (i : Nat), RelDs G μ H ds vs → RelD G μ H d v → RelDs G μ H (ds.set i d) (vs.set i v)
  | [], _, _, _, _, r, _ => by cases r; rfl
  | d :: ds, _, _, _, 0, r, q => by obtain ⟨v, rest, rfl, rd, rs⟩ := r; exact ⟨_, rest, rfl, q, rs⟩
  | d :: ds, _, _, _, i + 1, r, q => by obtain ⟨v, rest, rfl, rd, rs⟩ := r; exact ⟨v, _, rfl, rd, RelDs.set i rs q⟩
theorem RelDs.take : ∀ {ds : List D} {vs : List V} (n : Nat), RelDs G μ H ds vs → RelDs G μ H (ds.take n) (vs.take n)
  | _, _, 0, _ => by simp; rfl
  | [], _, n + 1, r => by cases r; rfl
  | d :: ds, _, n + 1, r => by obtain ⟨v, rest, rfl, rd, rs⟩ := r; exact ⟨v, _, rfl, rd, RelDs.take n rs⟩
theorem RelDs.drop : ∀ {ds : List D} {vs : List V} (n : Nat), RelDs G μ H ds vs → RelDs G μ H (ds.drop n) (vs.drop n)
  | _, _, 0, r => r
  | [], _, n + 1, r => by cases r; rfl
  | d :: ds, _, n + 1, r => by obtain ⟨v, rest, rfl, rd, rs⟩ := r; exact RelDs.drop n rs
theorem RelDs.ints : ∀ {ns : List Int} {vs : List V}, RelDs G μ H (ns.map D.int) vs → vs = ns.map V.int
  | [], _, r => by cases r; rfl
  | n :: ns, _, r => by obtain ⟨v, rest, rfl, rd, rs⟩ := r; cases rd; simp [RelDs.ints rs]
theorem RelDs.bls : ∀ {ns : List Bool} {vs : List V}, RelDs G μ H (ns.map D.bl) vs → vs = ns.map V.bl
  | [], _, r => by cases r; rfl
  | n :: ns, _, r => by obtain ⟨v, rest, rfl, rd, rs⟩ := r; cases rd; simp [RelDs.bls rs]
theorem RelDs.of_all : ∀ {ds : List D} {vs : List V}, vs.length = ds.length → (∀ (i : Nat) d v, ds[i]? = some d → vs[i]? = some v → RelD G μ H d v) → RelDs G μ H ds vs
  | [], [], _, _ => rfl
  | [], _ :: _, h, _ => by simp at h
  | _ :: _, [], h, _ => by simp at h
  | d :: ds, v :: vs, h, k => ⟨v, vs, rfl, k 0 d v rfl rfl, RelDs.of_all (by simpa using h) fun i d' v' e1 e2 => k (i + 1) d' v' (by simpa using e1) (by simpa using e2)⟩
end

mutual
theorem RelD.pre {G : GX} {μ ν : List Addr} {H : Hp} : ∀ (d : D) (v : V), RelD G μ H d v → RelD G (μ ++ ν) H d v
  | .non, _, r => r
  | .bl _, _, r => r
  | .int _, _, r => r
  | .str _, _, r => r
  | .tup ds, _, r => by
    obtain ⟨a, vs, e1, q, rs⟩ := r
    exact ⟨a, vs, e1, q, RelDs.pre ds vs rs⟩
  | .ref n, _, r => by
    obtain ⟨a, e1, e2⟩ := r
    exact ⟨a, by rw [List.getElem?_append_left (List.getElem?_eq_some_iff.mp e1).1]; exact e1, e2⟩
  | .cls _, _, r => r
theorem RelDs.pre {G : GX} {μ ν : List Addr} {H : Hp} : ∀ (ds : List D) (vs : List V), RelDs G μ H ds vs → RelDs G (μ ++ ν) H ds vs
  | [], _, r => r
  | d :: ds, _, r => by
    obtain ⟨v, rest, e1, rd, rs⟩ := r
    exact ⟨v, rest, e1, RelD.pre d v rd, RelDs.pre ds rest rs⟩
end

/-! ## a new object -/
section
variable {G : GX} {μ μ' : List Addr} {H H' : Hp} {st : Store}
theorem Ext.new {p : Addr} {o : HO} (hp : H p = none) : Ext μ H μ (upd H p o) := ⟨[], by simp, by simp, fun a u e _ => by rw [upd_ne (ne_of_none e hp)]; exact e⟩
theorem HS.keep (h : HS G μ H st) (e : Ext μ H μ H') (k : ∀ a ∈ μ, H' a = H a) : HS G μ H' st :=
  ⟨h.nd, h.len, fun i a o e1 e2 => by
    obtain ⟨ho, e3, r⟩ := h.obj i a o e1 e2
    exact ⟨ho, by rw [k a (List.mem_of_getElem? e1)]; exact e3, r.ext h e⟩⟩
theorem HS.fresh (h : HS G μ H st) {p : Addr} (hp : H p = none) : p ∉ μ := fun hm => by
  obtain ⟨i, hi, e⟩ := List.getElem_of_mem hm
  obtain ⟨o, ho, _, e1, _⟩ := h.at (i := i) (a := p) (by rw [List.getElem?_eq_getElem hi, e])
  rw [hp] at e1; cases e1
/-- a new object that is not in the store -/
theorem HS.new (h : HS G μ H st) {p : Addr} {o : HO} (hp : H p = none) : HS G μ (upd H p o) st :=
  h.keep (.new hp) fun a ha => upd_ne fun e => h.fresh hp (e ▸ ha)
/-- a new object, put into the store -/
theorem HS.push (h : HS G μ H st) {p : Addr} {o : HO} {ao : AO} (hp : H p = none) (r : HObj G μ H ao o) : HS G (μ ++ [p]) (upd H p o) (st ++ [ao]) ∧ Ext μ H (μ ++ [p]) (upd H p o) := by
  have ex : Ext μ H (μ ++ [p]) (upd H p o) := ⟨[p], rfl, fun a ha => by simp at ha; subst ha; exact ⟨hp, h.fresh hp⟩, fun a u e _ => by rw [upd_ne (ne_of_none e hp)]; exact e⟩
  refine ⟨⟨?_, by simp [h.len], fun i a o' e1 e2 => ?_⟩, ex⟩
  · rw [List.nodup_append]
    refine ⟨h.nd, by simp, fun a ha b hb => ?_⟩
    simp at hb; subst hb
    exact fun e => h.fresh hp (e ▸ ha)
  · by_cases hi : i < μ.length
    · rw [List.getElem?_append_left hi] at e1
      rw [List.getElem?_append_left (by rw [← h.len]; exact hi)] at e2
      obtain ⟨ho, e3, r'⟩ := h.obj i a o' e1 e2
      exact ⟨ho, by rw [upd_ne (ne_of_none e3 hp)]; exact e3, r'.ext h ex⟩
    · have e0 : i = μ.length := by
        have := (List.getElem?_eq_some_iff.mp e1).1
        simp at this; omega
      subst e0
      rw [List.getElem?_append_right (Nat.le_refl _)] at e1
      rw [h.len, List.getElem?_append_right (Nat.le_refl _)] at e2
      simp at e1 e2
      subst e1; subst e2
      exact ⟨o, upd_same, r.ext h ex⟩
/-- a list that nobody knows is put into the store -/
theorem HS.adopt (h : HS G μ H st) {p : Addr} {o : HO} {ao : AO} (hp : H p = some o) (hn : p ∉ μ) (r : HObj G μ H ao o) : HS G (μ ++ [p]) H (st ++ [ao]) := by
  have noT := r.noTup
  have relk : ∀ (d : D) (v : V), RelD G μ H d v → RelD G (μ ++ [p]) H d v := fun d v r => RelD.pre d v r
  have rels : ∀ (ds : List D) (vs : List V), RelDs G μ H ds vs → RelDs G (μ ++ [p]) H ds vs := fun d v r => RelDs.pre d v r
  have relf : ∀ (fs : List (Str × D)) (vs : List (Str × V)), RelF G μ H fs vs → RelF G (μ ++ [p]) H fs vs := by
    intro fs
    induction fs with
    | nil => exact fun vs r => r
    | cons d ds ih => obtain ⟨x, d⟩ := d; intro vs r; obtain ⟨v, rest, e1, rd, rs⟩ := r; exact ⟨v, rest, e1, relk d v rd, ih rest rs⟩
  have relK : ∀ {κ : Type} (f : D → Option κ) (fs : List (D × D)) (vs : List (κ × V)), RelK G μ H f fs vs → RelK G (μ ++ [p]) H f fs vs := by
    intro κ f fs
    induction fs with
    | nil => exact fun vs r => r
    | cons d ds ih => obtain ⟨x, d⟩ := d; intro vs r; obtain ⟨c, v, rest, e1, ek, rd, rs⟩ := r; exact ⟨c, v, rest, e1, ek, relk d v rd, ih rest rs⟩
  have relo : ∀ ao ho, HObj G μ H ao ho → HObj G (μ ++ [p]) H ao ho := by
    intro ao ho r
    cases ao with
    | lst ds => obtain ⟨vs, e1, rs⟩ := r; exact ⟨vs, e1, rels _ _ rs⟩
    | rol ds => obtain ⟨ob, vs, e1, rs⟩ := r; exact ⟨ob, vs, e1, rels _ _ rs⟩
    | ins c fs => obtain ⟨C, dx, vs, e1, m, rs⟩ := r; exact ⟨C, dx, vs, e1, m, relf _ _ rs⟩
    | dct kvs => obtain ⟨ks, e1, rs⟩ := r; exact ⟨ks, e1, relK _ _ _ rs⟩
    | dcT kvs => obtain ⟨ks, e1, rs⟩ := r; exact ⟨ks, e1, relK _ _ _ rs⟩
  refine ⟨?_, by simp [h.len], fun i a o' e1 e2 => ?_⟩
  · rw [List.nodup_append]
    refine ⟨h.nd, by simp, fun a ha b hb => ?_⟩
    simp at hb; subst hb
    exact fun e => hn (e ▸ ha)
  · by_cases hi : i < μ.length
    · rw [List.getElem?_append_left hi] at e1
      rw [List.getElem?_append_left (by rw [← h.len]; exact hi)] at e2
      obtain ⟨ho, e3, r'⟩ := h.obj i a o' e1 e2
      exact ⟨ho, e3, relo _ _ r'⟩
    · have e0 : i = μ.length := by
        have := (List.getElem?_eq_some_iff.mp e1).1
        simp at this; omega
      subst e0
      rw [List.getElem?_append_right (Nat.le_refl _)] at e1
      rw [h.len, List.getElem?_append_right (Nat.le_refl _)] at e2
      simp at e1 e2
      subst e1; subst e2
      exact ⟨o, hp, relo _ _ r⟩
end
end TK

set_option Elab.async false
set_option linter.all false
set_option maxRecDepth 100000
set_option maxHeartbeats 4000000
namespace TK
open PySem PySem.Spec
open PyProof.Rows hiding St
open L2

/-! ## what a call leaves of the store -/
mutual
def closed (n : Nat) : D → Bool
  | .tup ds => closeds n ds
  | .ref k => decide (k < n)
  | _ => true
def closeds (n : Nat) : List D → Bool
  | [] => true
  | d :: ds => closed n d && closeds n ds
end
def closedF (n : Nat) (fs : List (Str × D)) : Bool := fs.all fun p => closed n p.2
def closedK (n : Nat) (fs : List (D × D)) : Bool := fs.all fun p => closed n p.2
def closedO (n : Nat) : AO → Bool
  | .lst ds => closeds n ds
  | .rol ds => closeds n ds
  | .ins _ fs => closedF n fs
  | .dct kvs => closedK n kvs
  | .dcT kvs => closedK n kvs
def Trim (st st' : Store) : Prop := ∀ i, i < st.length → st'[i]? = st[i]? ∨ ∃ o, st'[i]? = some o ∧ closedO st.length o = true
open Classical in
noncomputable def gcR (st : Store) : R D → R D
  | .ok d st' => if Trim st st' then
      (if closed st.length d then .ok d (st'.take st.length)
      else match d with
        | .ref k => match st'[k]? with
          | some o => if closedO st.length o then .ok (.ref st.length) (st'.take st.length ++ [o]) else .ok d st'
          | none => .ok d st'
        | _ => .ok d st')
      else .ok d st'
  | .exc x st' => if Trim st st' ∧ closedF st.length x.fs = true then .exc x (st'.take st.length) else .exc x st'
  | .bad => .bad
section
variable {G : GX} {μ μ' ν : List Addr} {H H' : Hp} {st st' : Store}
mutual
theorem RelD.closed : ∀ (d : D) (v : V), RelD G μ H d v → closed μ.length d = true
  | .non, _, _ => rfl
  | .bl _, _, _ => rfl
  | .int _, _, _ => rfl
  | .str _, _, _ => rfl
  | .cls _, _, _ => rfl
  | .tup ds, _, r => by obtain ⟨a, vs, _, _, rs⟩ := r; exact RelDs.closed ds vs rs
  | .ref n, _, r => by obtain ⟨a, e1, _⟩ := r; simpa [TK.closed] using (List.getElem?_eq_some_iff.mp e1).1
theorem RelDs.closed : ∀ (ds : List D) (vs : List V), RelDs G μ H ds vs → closeds μ.length ds = true
  | [], _, _ => rfl
  | d :: ds, _, r => by
    obtain ⟨v, rest, _, rd, rs⟩ := r
    have h1 := RelD.closed d v rd
    have h2 := RelDs.closed ds rest rs
    simp [TK.closeds, h1, h2]
end
theorem RelF.closed : ∀ {fs : List (Str × D)} {vs : List (Str × V)}, RelF G μ H fs vs → closedF μ.length fs = true
  | [], _, _ => rfl
  | (x, d) :: fs, _, r => by
    obtain ⟨v, rest, _, rd, rs⟩ := r
    have h1 := RelD.closed d v rd
    have h2 := RelF.closed rs
    simp only [closedF] at h2 ⊢
    simp [h1, h2]
theorem RelK.closed {κ : Type} {f : D → Option κ} : ∀ {fs : List (D × D)} {vs : List (κ × V)}, RelK G μ H f fs vs → closedK μ.length fs = true
  | [], _, _ => rfl
  | (x, d) :: fs, _, r => by
    obtain ⟨c, v, rest, _, _, rd, rs⟩ := r
    have h1 := RelD.closed d v rd
    have h2 := RelK.closed rs
    simp only [closedK] at h2 ⊢
    simp [h1, h2]
theorem HObj.closed {o : AO} {ho : HO} (r : HObj G μ H o ho) : closedO μ.length o = true := by
  cases o with
  | lst ds => obtain ⟨vs, _, rs⟩ := r; exact RelDs.closed ds vs rs
  | rol ds => obtain ⟨ob, vs, _, rs⟩ := r; exact RelDs.closed ds vs rs
  | ins c fs => obtain ⟨C, dx, vs, _, _, rs⟩ := r; exact rs.closed
  | dct kvs => obtain ⟨ks, _, rs⟩ := r; exact rs.closed
  | dcT kvs => obtain ⟨ks, _, rs⟩ := r; exact rs.closed
mutual
theorem RelD.cut : ∀ (d : D) (v : V), TK.closed μ.length d = true → RelD G (μ ++ ν) H d v → RelD G μ H d v
  | .non, _, _, r => r
  | .bl _, _, _, r => r
  | .int _, _, _, r => r
  | .str _, _, _, r => r
  | .cls _, _, _, r => r
  | .tup ds, _, c, r => by
    obtain ⟨a, vs, e1, q, rs⟩ := r
    exact ⟨a, vs, e1, q, RelDs.cut ds vs (by simpa [TK.closed] using c) rs⟩
  | .ref n, _, c, r => by
    obtain ⟨a, e1, e2⟩ := r
    have hn : n < μ.length := by simpa [TK.closed] using c
    exact ⟨a, by rw [List.getElem?_append_left hn] at e1; exact e1, e2⟩
theorem RelDs.cut : ∀ (ds : List D) (vs : List V), TK.closeds μ.length ds = true → RelDs G (μ ++ ν) H ds vs → RelDs G μ H ds vs
  | [], _, _, r => r
  | d :: ds, _, c, r => by
    obtain ⟨v, rest, e1, rd, rs⟩ := r
    simp only [TK.closeds, Bool.and_eq_true] at c
    exact ⟨v, rest, e1, RelD.cut d v c.1 rd, RelDs.cut ds rest c.2 rs⟩
end
theorem RelF.cut : ∀ {fs : List (Str × D)} {vs : List (Str × V)}, closedF μ.length fs = true → RelF G (μ ++ ν) H fs vs → RelF G μ H fs vs
  | [], _, _, r => r
  | (x, d) :: fs, _, c, r => by
    obtain ⟨v, rest, e1, rd, rs⟩ := r
    simp only [closedF, List.all_cons, Bool.and_eq_true] at c
    exact ⟨v, rest, e1, RelD.cut d v c.1 rd, RelF.cut c.2 rs⟩
theorem RelK.cut {κ : Type} {f : D → Option κ} : ∀ {fs : List (D × D)} {vs : List (κ × V)}, closedK μ.length fs = true → RelK G (μ ++ ν) H f fs vs → RelK G μ H f fs vs
  | [], _, _, r => r
  | (x, d) :: fs, _, c, r => by
    obtain ⟨k, v, rest, e1, ek, rd, rs⟩ := r
    simp only [closedK, List.all_cons, Bool.and_eq_true] at c
    exact ⟨k, v, rest, e1, ek, RelD.cut d v c.1 rd, RelK.cut c.2 rs⟩
theorem HObj.cut {o : AO} {ho : HO} (c : closedO μ.length o = true) (r : HObj G (μ ++ ν) H o ho) : HObj G μ H o ho := by
  cases o with
  | lst ds => obtain ⟨vs, e1, rs⟩ := r; exact ⟨vs, e1, RelDs.cut ds vs c rs⟩
  | rol ds => obtain ⟨ob, vs, e1, rs⟩ := r; exact ⟨ob, vs, e1, RelDs.cut ds vs c rs⟩
  | ins c' fs => obtain ⟨C, dx, vs, e1, m, rs⟩ := r; exact ⟨C, dx, vs, e1, m, rs.cut c⟩
  | dct kvs => obtain ⟨ks, e1, rs⟩ := r; exact ⟨ks, e1, rs.cut c⟩
  | dcT kvs => obtain ⟨ks, e1, rs⟩ := r; exact ⟨ks, e1, rs.cut c⟩
theorem RelF.pre : ∀ {fs : List (Str × D)} {vs : List (Str × V)}, RelF G μ H fs vs → RelF G (μ ++ ν) H fs vs
  | [], _, r => r
  | (x, d) :: fs, _, r => by obtain ⟨v, rest, e1, rd, rs⟩ := r; exact ⟨v, rest, e1, RelD.pre d v rd, RelF.pre rs⟩
theorem RelK.pre {κ : Type} {f : D → Option κ} : ∀ {fs : List (D × D)} {vs : List (κ × V)}, RelK G μ H f fs vs → RelK G (μ ++ ν) H f fs vs
  | [], _, r => r
  | (x, d) :: fs, _, r => by obtain ⟨k, v, rest, e1, ek, rd, rs⟩ := r; exact ⟨k, v, rest, e1, ek, RelD.pre d v rd, RelK.pre rs⟩
theorem HObj.pre {o : AO} {ho : HO} (r : HObj G μ H o ho) : HObj G (μ ++ ν) H o ho := by
  cases o with
  | lst ds => obtain ⟨vs, e1, rs⟩ := r; exact ⟨vs, e1, RelDs.pre ds vs rs⟩
  | rol ds => obtain ⟨ob, vs, e1, rs⟩ := r; exact ⟨ob, vs, e1, RelDs.pre ds vs rs⟩
  | ins c' fs => obtain ⟨C, dx, vs, e1, m, rs⟩ := r; exact ⟨C, dx, vs, e1, m, rs.pre⟩
  | dct kvs => obtain ⟨ks, e1, rs⟩ := r; exact ⟨ks, e1, rs.pre⟩
  | dcT kvs => obtain ⟨ks, e1, rs⟩ := r; exact ⟨ks, e1, rs.pre⟩
theorem HS.closedAt (h : HS G μ H st) {i : Nat} {o : AO} (e : st[i]? = some o) : closedO st.length o = true := by
  have hi : i < μ.length := by rw [h.len]; exact (List.getElem?_eq_some_iff.mp e).1
  obtain ⟨ho, _, r⟩ := h.obj i μ[i] o (by simp [hi]) e
  rw [← h.len]; exact r.closed
/-- the store cut back to what stood ahead -/
theorem HS.cut (h0 : HS G μ H st) (e : Ext μ H μ' H') (h1 : HS G μ' H' st') (t : Trim st st') : HS G μ H' (st'.take st.length) := by
  obtain ⟨ν, rfl, f, k⟩ := e
  have hl := h1.len
  simp at hl
  refine ⟨h0.nd, by rw [List.length_take, ← h0.len]; omega, fun i a o e1 e2 => ?_⟩
  have hi : i < μ.length := (List.getElem?_eq_some_iff.mp e1).1
  rw [List.getElem?_take_of_lt (by rw [← h0.len]; exact hi)] at e2
  obtain ⟨ho, e3, r⟩ := h1.obj i a o (by rw [List.getElem?_append_left hi]; exact e1) e2
  refine ⟨ho, e3, r.cut ?_⟩
  rw [h0.len]
  rcases t i (by rw [← h0.len]; exact hi) with q | ⟨o', q, c⟩
  · rw [e2] at q; exact h0.closedAt q.symm
  · rw [e2] at q; cases q; exact c
theorem Ext.cut (e : Ext μ H μ' H') : Ext μ H μ H' := by
  obtain ⟨ν, rfl, f, k⟩ := e
  exact ⟨[], by simp, by simp, k⟩
theorem Post.gc {W : WX} {σ : St} {r : R D} {Q : VK} (h0 : HS G μ H st) (h : Post G W (relD G) σ μ H (gcR st r) Q) : Post G W (relD G) σ μ H r Q := by
  cases r with
  | bad => exact h
  | exc x st' =>
    intro μ' H' C od e hs rx
    simp only [gcR] at h
    split at h
    · rename_i t
      refine h μ H' C od e.cut (h0.cut e hs t.1) ?_
      obtain ⟨ν, rfl, f, k⟩ := e
      obtain ⟨a, m, e1, q⟩ := rx
      refine ⟨a, m, e1, ?_⟩
      cases od with
      | none => exact q
      | some dx =>
        obtain ⟨q1, q2, vs, q3, q4⟩ := q
        exact ⟨q1, fun z => q2 (List.mem_append_left _ z), vs, q3, q4.cut (by rw [h0.len]; exact t.2)⟩
    · exact h μ' H' C od e hs rx
  | ok d st' =>
    intro μ' H' v e hs rd
    simp only [gcR] at h
    split at h
    · rename_i t
      split at h
      · rename_i c
        refine h μ H' v e.cut (h0.cut e hs t) ?_
        obtain ⟨ν, rfl, f, k⟩ := e
        exact RelD.cut d v (by rw [h0.len]; exact c) rd
      · rename_i c
        split at h
        · rename_i k
          split at h
          · rename_i o eo
            split at h
            · rename_i co
              have hc := h0.cut e hs t
              obtain ⟨a, ea, ev⟩ := (show ∃ a, μ'[k]? = some a ∧ v = .ref a from rd)
              have hk : ¬ k < st.length := by simpa [TK.closed] using c
              obtain ⟨ν, rfl, f, kk⟩ := e
              have hkm : μ.length ≤ k := by rw [h0.len]; omega
              have ea' := ea
              rw [List.getElem?_append_right hkm] at ea'
              have hav : a ∈ ν := List.mem_of_getElem? ea'
              obtain ⟨ho, e3, r⟩ := hs.obj k a o ea eo
              have hc2 := hc.adopt e3 (f a hav).2 (HObj.cut (by rw [h0.len]; exact co) r)
              refine h (μ ++ [a]) H' v ⟨[a], rfl, fun b hb => by simp at hb; subst hb; exact f _ hav, kk⟩ hc2 ⟨a, ?_, ev⟩
              rw [← h0.len, List.getElem?_append_right (Nat.le_refl _)]; simp
            · exact h μ' H' v e hs rd
          · exact h μ' H' v e hs rd
        · exact h μ' H' v e hs rd
    · exact h μ' H' v e hs rd
end

/-! ## functions of the text -/
/-- what a def promises: its plain function -/
def spA (G : GX) (m : List D → Store → R D) (n : Nat) : Sp := fun vs H Q E => ∃ μ st ds, HS G μ H st ∧ RelDs G μ H ds vs ∧ Post G (fun C od _ H' => E C od H') (relD G) [] μ H (m ds st) Q ∧ ds.length = n
noncomputable def eCall (m : List D → Store → R D) (fa : LF) : EF := fun env st => (fa env st).bind fun ds st1 => gcR st1 (m ds st1)
def lNil : LF := fun _ st => .ok [] st
def lCons (fa : EF) (fr : LF) : LF := fun env st => (fa env st).bind fun d st1 => (fr env st1).bind fun ds st2 => .ok (d :: ds) st2
theorem Post.slots {α β : Type} {G : GX} {W W' : WX} {rel : RelT α β} {σ σ' : St} {μ : List Addr} {H : Hp} {r : R α} {Q : β → Hp → Prop} (h : Post G W rel σ μ H r Q) (k : ∀ C od H', W C od σ H' → W' C od σ' H') : Post G W' rel σ' μ H r Q := by
  cases r with
  | ok a st => exact h
  | exc x st => exact fun μ' H' C od e hs rx => k _ _ _ (h μ' H' C od e hs rx)
  | bad => exact h
/-- what a body's context gives: no name twice, room for calls, how exceptions go -/
structure Ctx (X : Cx) (W : WX) (lv : Nat) : Prop where
  nd : X.N.Nodup
  calm : X.calm = true
  room : Room lv X.A
  own : PassesOwn (model X.prog X.w) X.A X.env X.xe
  tk : Takes X W
theorem Ctx.at {X : Cx} {W : WX} {lv : Nat} (c : Ctx X W lv) (σ : St) : PassesAt (CX X.prog X.w) X σ (WE W σ) := passAt c.tk σ
theorem Ctx.mono {X : Cx} {W : WX} {j k : Nat} (c : Ctx X W k) (h : j ≤ k) : Ctx X W j := ⟨c.nd, c.calm, c.room.mono h, c.own, c.tk⟩
section
variable {X : Cx} {W : WX} {e : Expr} {es : List Expr} {fa : EF} {fr : LF}
theorem aa_nil : AA X W [] lNil := pa_nil.weak fun σ H Q ⟨μ, env, st, hs, er, p⟩ => p μ H [] .refl hs rfl
theorem aa_cons (ha : AE X W e fa) (hr : AA X W es fr) (hs : starEach (e :: es) X.env = (false, eval e X.env) :: starEach es X.env := by rfl) : AA X W (e :: es) (lCons fa fr) :=
  (pa_cons ha hr hs).weak fun σ H Q ⟨μ, env, st, hs, er, p⟩ =>
    ⟨μ, env, st, hs, er, Post.bind p fun x st1 μ1 H1 v _ x1 hs1 r1 p1 => ⟨μ1, env, st1, hs1, er.ext hs x1, Post.bind p1 fun ds st2 μ2 H2 vs _ x2 hs2 r2 p2 => p2 μ2 H2 (v :: vs) .refl hs2 (.cons (RelD.ext hs1 x2 x v r1) r2)⟩⟩
variable {lv k : Nat} {f : Addr} {fd : FuncData} {ps : List Str} {m : List D → Store → R D} {x : Str} {p pos : Pos}
theorem call_sp {σ : St} {H : Hp} {Q : VK} {n : Nat} (h : tG (gx X) W (relD (gx X)) (eCall m fr) σ H Q) (hn : ∀ env st ds st', fr env st = .ok ds st' → ds.length = n) :
    tCallSD (spA (gx X) m n) [] (WE W) (tG (gx X) W (relDs (gx X)) fr) σ H Q := by
  obtain ⟨μ, env, st, hs, er, q⟩ := h
  refine ⟨μ, env, st, hs, er, Post.bind q fun ds st1 μ1 H1 vs e1 x1 hs1 r1 p1 => ?_⟩
  rw [List.append_nil]
  exact ⟨μ1, st1, ds, hs1, r1, (Post.gc hs1 p1).slots fun _ _ _ w => w, hn env st ds st1 e1⟩
/-- a def of the text, called -/
structure FnA (G : GX) (P : Program) (w : World) (base : Heap) (k : Nat) (x : Str) (n : Nat) (m : List D → Store → R D) : Prop where
  ex : ∃ f fd ps, FnOk P w G.K G.mg base (CX P w) k f fd ps (spA G m n) ∧ G.mg x = some (.ref f) ∧ PySem.W.keepIn G.K (.ref f) = true ∧ Binds G.K fd ps []
theorem ae_call {n : Nat} (F : FnA (gx X) X.prog X.w X.base k x n m) (c : Ctx X W lv) (ha : AA X W (e :: es) fr) (hn : ∀ env st ds st', fr env st = .ok ds st' → ds.length = n) (hk : k ≤ lv := by decide) (hg : Gl X x := by rfl)
    (hdb : (x == ("__debug__" : Str)) = false := by decide) (he : starEach (e :: es) X.env = (false, eval e X.env) :: starEach es X.env := by rfl) (hpl : (backTo pos (starEach es X.env)).any (·.1) = false := by rfl) :
    AE X W (.Call (.Name x p) (e :: es) [] pos) (eCall m fr) := by
  obtain ⟨f, fd, ps, F, hm, hkp, hb⟩ := F.ex
  exact (pe_callSD F (c.room.mono hk) hg hm hkp hb .nil c.at ha hdb he hpl).weak fun σ H Q h => call_sp h hn
theorem lNil_len (env : AEnv) (st : Store) (ds : List D) (st' : Store) (h : lNil env st = .ok ds st') : ds.length = 0 := by cases h; rfl
theorem lCons_len {n : Nat} (hr : ∀ env st ds st', fr env st = .ok ds st' → ds.length = n) (env : AEnv) (st : Store) (ds : List D) (st' : Store) (h : lCons fa fr env st = .ok ds st') : ds.length = n + 1 := by
  unfold lCons at h
  cases e1 : fa env st with
  | ok d st1 =>
    rw [e1] at h
    cases e2 : fr env st1 with
    | ok ds' st2 =>
      rw [R.bind_ok, e2] at h
      cases h
      simp [hr env st1 ds' _ e2]
    | exc _ _ => rw [R.bind_ok, e2] at h; cases h
    | bad => rw [R.bind_ok, e2] at h; cases h
  | exc _ _ => rw [e1] at h; cases h
  | bad => rw [e1] at h; cases h
end
end TK

set_option Elab.async false
set_option linter.all false
set_option maxRecDepth 100000
set_option maxHeartbeats 4000000
namespace TK
open PySem PySem.Spec
open PyProof.Rows hiding St
open L2

/-! ## statements -/
def sOf {α : Type} (r : R α) (env : AEnv) (k : α → Store → RS) : RS := match r with
  | .ok a st => k a st
  | .exc x st => .exc env x st
  | .bad => .bad
@[simp] theorem sOf_ok {α : Type} (a : α) (st : Store) (env : AEnv) (k : α → Store → RS) : sOf (.ok a st) env k = k a st := rfl
@[simp] theorem sOf_exc {α : Type} (x : EX) (st : Store) (env : AEnv) (k : α → Store → RS) : sOf (.exc x st) env k = .exc env x st := rfl
@[simp] theorem sOf_bad {α : Type} (env : AEnv) (k : α → Store → RS) : sOf .bad env k = .bad := rfl
def sThen (r : RS) (g : SF) : RS := match r with
  | .next env st => g env st
  | r => r
@[simp] theorem sThen_next (env : AEnv) (st : Store) (g : SF) : sThen (.next env st) g = g env st := rfl
@[simp] theorem sThen_ret (d : D) (st : Store) (g : SF) : sThen (.ret d st) g = .ret d st := rfl
@[simp] theorem sThen_brk (env : AEnv) (st : Store) (g : SF) : sThen (.brk env st) g = .brk env st := rfl
@[simp] theorem sThen_cont (env : AEnv) (st : Store) (g : SF) : sThen (.cont env st) g = .cont env st := rfl
@[simp] theorem sThen_exc (env : AEnv) (x : EX) (st : Store) (g : SF) : sThen (.exc env x st) g = .exc env x st := rfl
@[simp] theorem sThen_bad (g : SF) : sThen .bad g = .bad := rfl
def sSeq (f g : SF) : SF := fun env st => sThen (f env st) g
def sNil : SF := fun env st => .next env st
def sSet (i : Nat) (fe : EF) : SF := fun env st => sOf (fe env st) env fun d st1 => .next (env.set i (some d)) st1
def sDrop (fe : EF) : SF := fun env st => sOf (fe env st) env fun _ st1 => .next env st1
def sRet (fe : EF) : SF := fun env st => sOf (fe env st) env fun d st1 => .ret d st1
def sRetN : SF := fun _ st => .ret .non st
def sIf (fc : BF) (f g : SF) : SF := fun env st => sOf (fc env st) env fun b st1 => if b then f env st1 else g env st1
def sBrk : SF := fun env st => .brk env st
def sCont : SF := fun env st => .cont env st
section
variable {α β : Type} {G : GX} {W : WX} {rel : RelT α β} {μ : List Addr} {H : Hp} {σ : St} {st : Store} {env : AEnv} {Dn : Ends}
theorem PostS.bind {r : R α} {k : α → Store → RS} {Q : β → Hp → Prop} (h : PostS G W μ H (sOf r env k) Dn) (hs : HS G μ H st) (er : EnvR G μ H env σ)
    (kk : ∀ x st1 μ1 H1 y, r = .ok x st1 → Ext μ H μ1 H1 → HS G μ1 H1 st1 → rel.r H μ1 H1 x y → PostS G W μ1 H1 (k x st1) Dn → Q y H1) : Post G W rel σ μ H r Q := by
  cases r with
  | ok a st => exact fun μ2 H2 y e2 hs rl => kk a st μ2 H2 y rfl e2 hs rl (PostS.later h e2)
  | exc x st => exact fun μ2 H2 C od e2 hs2 rx => h μ2 H2 σ C od e2 hs2 (er.ext hs e2) rx
  | bad => exact h
end
section
variable {X : Cx} {W : WX} {s : Stmt} {ss : List Stmt} {f g : SF} {e : Expr} {fe : EF} {fc : BF} {pos : Pos} {lv : Nat}
theorem ass_nil : ASs X W [] sNil := pss_nil.weak fun Dn σ H ⟨μ, env, st, hs, er, p⟩ => p μ H σ .refl hs er
theorem ass_cons (h1 : AS X W s f) (h2 : ASs X W ss g) : ASs X W (s :: ss) (sSeq f g) := (pss_cons h1 h2).weak fun Dn σ H ⟨μ, env, st, hs, er, p⟩ => by
  refine ⟨μ, env, st, hs, er, ?_⟩
  unfold sSeq at p
  cases q : f env st with
  | next env1 st1 => rw [q] at p; exact fun μ' H' σ' e hs' er' => ⟨μ', env1, st1, hs', er', PostS.later p e⟩
  | ret d st1 => rw [q] at p; exact p
  | brk env1 st1 => rw [q] at p; exact p
  | cont env1 st1 => rw [q] at p; exact p
  | exc env1 x st1 => rw [q] at p; exact p
  | bad => rw [q] at p; exact p
theorem ass_one (h1 : AS X W s f) : ASs X W [s] f := (pss_one h1).weak fun Dn σ H h => h
theorem as_set (c : Ctx X W lv) (i : Nat) {x : Str} {pos' : Pos} (he : AE X W e fe) (hi : X.N[i]? = some x := by rfl) (hx : Loc X.env.scope x := by first | exact Or.inl rfl | exact Or.inr rfl)
    (hs : swapsWith e (some (.Name x pos')) pos.line X.env = pure false := by rfl) (hf : X.fn x = true ∨ X.env.scope.names.lookup x = some .local := by first | exact .inl rfl | exact .inr rfl) :
    AS X W (.Assign [.Name x pos'] e pos) (sSet i fe) := (ps_set c.nd hi hx he hs hf).weak fun Dn σ H ⟨μ, env, st, hs, er, p⟩ =>
  ⟨μ, env, st, hs, er, PostS.bind p hs er fun d st1 μ1 H1 v _ x1 hs1 r1 p1 => p1 μ1 H1 _ .refl hs1 ((er.ext hs x1).set r1 i)⟩
theorem as_expr (he : AE X W e fe) (hs : swapsWith e none pos.line X.env = pure false := by rfl) : AS X W (.Expr e pos) (sDrop fe) := (ps_expr he hs).weak fun Dn σ H ⟨μ, env, st, hs, er, p⟩ =>
  ⟨μ, env, st, hs, er, PostS.bind p hs er fun d st1 μ1 H1 v _ x1 hs1 r1 p1 => p1 μ1 H1 _ .refl hs1 (er.ext hs x1)⟩
theorem as_ret (he : AE X W e fe) : AS X W (.Return (some e) pos) (sRet fe) := (ps_ret he).weak fun Dn σ H ⟨μ, env, st, hs, er, p⟩ =>
  ⟨μ, env, st, hs, er, PostS.bind p hs er fun d st1 μ1 H1 v _ x1 hs1 r1 p1 => p1 μ1 H1 v .refl hs1 r1⟩
theorem as_retN : AS X W (.Return none pos) sRetN := ps_retN.weak fun Dn σ H ⟨μ, env, st, hs, er, p⟩ => p μ H .non .refl hs rfl
theorem as_if {c : Expr} {a b : List Stmt} (hc : AT X W c fc) (ha : ASs X W a f) (hb : ASs X W b g) : AS X W (.If c a b pos) (sIf fc f g) := (ps_if hc ha hb).weak fun Dn σ H ⟨μ, env, st, hs, er, p⟩ =>
  ⟨μ, env, st, hs, er, PostS.bind p hs er fun d st1 μ1 H1 v _ x1 hs1 r1 p1 => by
    have r1 : v = d := r1
    subst r1
    cases v with
    | true => exact ⟨μ1, env, st1, hs1, er.ext hs x1, p1⟩
    | false => exact ⟨μ1, env, st1, hs1, er.ext hs x1, p1⟩⟩
theorem as_brk : AS X W (.Break pos) sBrk := ps_break.weak fun Dn σ H ⟨μ, env, st, hs, er, p⟩ => p μ H σ .refl hs er
theorem as_cont : AS X W (.Continue pos) sCont := ps_continue.weak fun Dn σ H ⟨μ, env, st, hs, er, p⟩ => p μ H σ .refl hs er
theorem as_pass : AS X W (.Pass pos) sNil := ps_pass.weak fun Dn σ H ⟨μ, env, st, hs, er, p⟩ => p μ H σ .refl hs er
end

/-! ## a def -/
def runDef (n : Nat) (body : SF) : List D → Store → R D := fun ds st => match body (ds.map some ++ List.replicate (n - ds.length) none) st with
  | .next _ st' => .ok .non st'
  | .ret d st' => .ok d st'
  | .exc _ x st' => .exc x st'
  | _ => .bad
section
variable {P : Program} {w : World} {G : GX} {base : Heap}
theorem EnvR.start {μ : List Addr} {H : Hp} {ds : List D} {vs : List V} {n : Nat} (r : RelDs G μ H ds vs) : EnvR G μ H (ds.map some ++ List.replicate (n - ds.length) none) (vs.map some ++ List.replicate (n - vs.length) none) := by
  have hl := r.length
  refine ⟨by simp [hl], fun i d q => ?_⟩
  by_cases hi : i < ds.length
  · rw [List.getElem?_append_left (by simpa using hi), List.getElem?_map] at q
    cases e : ds[i]? with
    | none => rw [e] at q; cases q
    | some d' =>
      rw [e] at q
      simp at q
      subst q
      obtain ⟨v, e1, rd⟩ := r.get e
      exact ⟨v, by rw [List.getElem?_append_left (by simpa [hl] using hi), List.getElem?_map, e1]; rfl, rd⟩
  · rw [List.getElem?_append_right (by simpa using hi), List.getElem?_replicate] at q
    split at q <;> cases q
/-- THE RULE of a def: its body as plain function -/
theorem FnA.of {x qual : Str} {st : Stmt} {f : Addr} {fd : FuncData} {N ps : List Str} {k : Nat} {body : SF} (F : Fun G.K x qual st f fd) (S : FnScope N ps (defScope st)) (hm : G.mg x = some (.ref f))
    (hb : Binds G.K fd ps [])
    (h : ∀ (cdv : Value) (A : Around) (outer : List Env) (s : Shared) (H : Hp) (E : XK),
      Ctx (cxOf (L2.CX P w) P w G.K G.mg base N qual (defScope st) f cdv A outer s H E) (fun C od _ H' => E C od H') k → ASs (cxOf (L2.CX P w) P w G.K G.mg base N qual (defScope st) f cdv A outer s H E) (fun C od _ H' => E C od H') (defBody st) body) :
    FnA G P w base (k + 1) x ps.length (runDef N.length body) := by
  refine ⟨f, fd, ps, ?_, hm, F.kp, hb⟩
  refine F.okX S (fun vs H Q E q => ?_) fun cdv A outer s H vs Q E hr hsp => ?_
  · obtain ⟨μ, st, ds, _, r, _, hl⟩ := q
    rw [r.length, hl]
  · obtain ⟨μ, sto, ds, hs, r, p, hl⟩ := hsp
    have c : Ctx (cxOf (L2.CX P w) P w G.K G.mg base N qual (defScope st) f cdv A outer s H E) (fun C od _ H' => E C od H') k :=
      ⟨S.nd, rfl, hr, passes_of rfl, takes_of rfl rfl rfl rfl⟩
    refine ⟨_, h cdv A outer s H E c, ?_⟩
    refine ⟨μ, ds.map some ++ List.replicate (N.length - ds.length) none, sto, hs, EnvR.start (n := N.length) r, ?_⟩
    · unfold runDef at p
      cases q : body (ds.map some ++ List.replicate (N.length - ds.length) none) sto with
      | next env' st' => rw [q] at p; exact fun μ' H' σ' e hs' er' => p μ' H' .non e hs' rfl
      | ret d st' => rw [q] at p; exact p
      | brk env' st' => rw [q] at p; exact p.elim
      | cont env' st' => rw [q] at p; exact p.elim
      | exc env' x st' => rw [q] at p; exact fun μ' H' σ' C od e hs' er' rx => p μ' H' C od e hs' rx
      | bad => rw [q] at p; exact p.elim
end

/-! ## targets -/
inductive Tgt where
  | name (i : Nat) | tup (ts : List Tgt)
mutual
def asgT : Tgt → D → AEnv → Option AEnv
  | .name i, d, env => some (env.set i (some d))
  | .tup ts, .tup ds, env => asgTs ts ds env
  | .tup _, _, _ => none
def asgTs : List Tgt → List D → AEnv → Option AEnv
  | [], [], env => some env
  | t :: ts, d :: ds, env => match asgT t d env with
    | some env' => asgTs ts ds env'
    | none => none
  | _, _, _ => none
end
mutual
def gT (K : PySem.W.Frag) : Tgt → TG
  | .name i => gName i
  | .tup ts => gTup K ts.length (gTs K ts)
def gTs (K : PySem.W.Frag) : List Tgt → TGs
  | [] => gNil
  | t :: ts => gCons (gT K t) (gTs K ts)
end
mutual
def slotsT : Tgt → List Nat
  | .name i => [i]
  | .tup ts => slotsTs ts
def slotsTs : List Tgt → List Nat
  | [] => []
  | t :: ts => slotsT t ++ slotsTs ts
end
theorem wipe_set (σ : St) {i : Nat} {x : Option V} : ∀ {vs : List Nat}, i ∈ vs → wipe (σ.set i x) vs = wipe σ vs
  | [], h => by simp at h
  | v :: vs, h => by
    unfold wipe
    by_cases hv : i ∈ vs
    · rw [wipe_set σ hv]
    · have e : i = v := by rcases List.mem_cons.mp h with h | h; exact h; exact absurd h hv
      subst e
      have com : ∀ (us : List Nat), i ∉ us → wipe (σ.set i x) us = (wipe σ us).set i x := by
        intro us
        induction us with
        | nil => intro _; rfl
        | cons u us ih =>
          intro hu
          simp only [List.mem_cons, not_or] at hu
          unfold wipe
          rw [ih hu.2, List.set_comm _ _ hu.1]
      rw [com vs hv, List.set_set]
theorem wipe_wipe (σ : St) (vs : List Nat) : wipe (wipe σ vs) vs = wipe σ vs := by
  have h : ∀ us : List Nat, (∀ u ∈ us, u ∈ vs) → wipe (wipe σ us) vs = wipe σ vs := by
    intro us
    induction us with
    | nil => intro _; rfl
    | cons u us ih =>
      intro hu
      show wipe ((wipe σ us).set u none) vs = _
      rw [wipe_set _ (hu u (by simp)), ih fun w hw => hu w (by simp [hw])]
  exact h vs fun _ z => z
section
variable {G : GX} {μ : List Addr} {H : Hp} {st : Store}
mutual
theorem gT_ok : ∀ (t : Tgt) {env env' : AEnv} {σ : St} {d : D} {v : V} {Q : St → Hp → Prop}, EnvR G μ H env σ → RelD G μ H d v → asgT t d env = some env' →
    (∀ σ', EnvR G μ H env' σ' → (∀ vs, (∀ i ∈ slotsT t, i ∈ vs) → wipe σ' vs = wipe σ vs) → Q σ' H) → gT G.K t v σ H Q
  | .name i, env, env', σ, d, v, Q, er, rd, e, q => by
    simp only [asgT, Option.some.injEq] at e
    subst e
    unfold gT
    exact q _ (er.set rd i) fun vs hv => wipe_set σ (hv i (by simp [slotsT]))
  | .tup ts, env, env', σ, d, v, Q, er, rd, e, q => by
    cases d with
    | tup ds =>
      obtain ⟨a, vs, e1, hq, rs⟩ := rd
      simp only [asgT] at e
      unfold gT
      have hl : ds.length = ts.length := asgTs_len ts e
      refine ⟨a, vs, e1, .of hq, by rw [rs.length, hl], ?_⟩
      exact gTs_ok ts er rs e fun σ' er' hw => q σ' er' fun us hu => hw us (by simpa [slotsT] using hu)
    | _ => simp [asgT] at e
theorem gTs_ok : ∀ (ts : List Tgt) {env env' : AEnv} {σ : St} {ds : List D} {vs : List V} {Q : St → Hp → Prop}, EnvR G μ H env σ → RelDs G μ H ds vs → asgTs ts ds env = some env' →
    (∀ σ', EnvR G μ H env' σ' → (∀ us, (∀ i ∈ slotsTs ts, i ∈ us) → wipe σ' us = wipe σ us) → Q σ' H) → gTs G.K ts vs σ H Q
  | [], env, env', σ, ds, vs, Q, er, rs, e, q => by
    cases ds with
    | nil => cases rs; simp [asgTs] at e; subst e; unfold gTs; exact ⟨rfl, q σ er fun _ _ => rfl⟩
    | cons _ _ => simp [asgTs] at e
  | t :: ts, env, env', σ, ds, vs, Q, er, rs, e, q => by
    cases ds with
    | nil => simp [asgTs] at e
    | cons d ds =>
      obtain ⟨v, rest, e1, rd, rs⟩ := rs
      simp only [asgTs] at e
      split at e
      · rename_i env1 e2
        unfold gTs
        refine ⟨v, rest, e1, gT_ok t er rd e2 fun σ1 er1 hw1 => ?_⟩
        refine gTs_ok ts er1 rs e fun σ2 er2 hw2 => q σ2 er2 fun us hu => ?_
        rw [hw2 us fun i hi => hu i (by simp [slotsTs, hi]), hw1 us fun i hi => hu i (by simp [slotsTs, hi])]
      · cases e
theorem asgTs_len : ∀ (ts : List Tgt) {env env' : AEnv} {ds : List D}, asgTs ts ds env = some env' → ds.length = ts.length
  | [], env, env', [], e => rfl
  | [], env, env', _ :: _, e => by simp [asgTs] at e
  | t :: ts, env, env', [], e => by simp [asgTs] at e
  | t :: ts, env, env', d :: ds, e => by
    simp only [asgTs] at e
    split at e
    · simp [asgTs_len ts e]
    · cases e
end
end
abbrev AG (X : Cx) (tg : Expr) (t : Tgt) : Prop := PG X tg (gT X.K t)
abbrev AGs (X : Cx) (tgs : List Expr) (ts : List Tgt) : Prop := PGs X tgs (gTs X.K ts)
section
variable {X : Cx} {W : WX} {e tg : Expr} {tgs : List Expr} {fe : EF} {pos : Pos} {lv : Nat} {t : Tgt} {ts : List Tgt}
theorem ag_name (hN : X.N.Nodup) (i : Nat) {x : Str} (hi : X.N[i]? = some x := by rfl) (hx : Loc X.env.scope x := by first | exact Or.inl rfl | exact Or.inr rfl) (hf : X.fn x = true ∨ X.env.scope.names.lookup x = some .local := by first | exact .inl rfl | exact .inr rfl) :
    AG X (.Name x pos) (.name i) := by
  have h := pg_name (pos := pos) hN hi hx hf
  unfold AG gT
  exact h
theorem ags_nil : AGs X [] [] := by unfold AGs gTs; exact pgs_nil
theorem ags_cons (h1 : AG X tg t) (h2 : AGs X tgs ts) (hs : (assignEach (tg :: tgs) X.env).map (·.2) = assign tg X.env :: (assignEach tgs X.env).map (·.2) := by rfl) : AGs X (tg :: tgs) (t :: ts) := by unfold AGs gTs; exact pgs_cons h1 h2 hs
theorem ag_tup {k : Nat} (hc : X.calm = true) (h : AGs X tgs ts) (hn : (assignEach tgs X.env).length = ts.length := by rfl) (hst : (assignEach tgs X.env).findIdx? (·.1) = none := by rfl) : AG X (.Tuple tgs k pos) (.tup ts) := by
  unfold AG gT
  exact pg_tup hc h hn hst
def sAsg (t : Tgt) (fe : EF) : SF := fun env st => sOf (fe env st) env fun d st1 => match asgT t d env with
  | some env' => .next env' st1
  | none => .bad
/-- a, b = e -/
theorem as_asg (he : AE X W e fe) (hg : AG X tg t) (hs : swapsWithSole [tg] e pos.line X.env = pure false := by rfl) (hw : swappedStores [tg] e X.env = pure none := by rfl)
    (h1 : (assignEach [tg] X.env).map (·.2) = [assign tg X.env] := by rfl) : AS X W (.Assign [tg] e pos) (sAsg t fe) := (ps_asg he hg hs hw h1).weak fun Dn σ H ⟨μ, env, st, hs, er, p⟩ =>
  ⟨μ, env, st, hs, er, PostS.bind p hs er fun d st1 μ1 H1 v _ x1 hs1 r1 p1 => by
    split at p1
    · rename_i env' e1
      exact gT_ok (G := gx X) t (er.ext hs x1) r1 e1 fun σ' er' _ => p1 μ1 H1 σ' .refl hs1 er'
    · exact p1.elim⟩
end
end TK

set_option Elab.async false
set_option linter.all false
set_option maxRecDepth 100000
set_option maxHeartbeats 4000000
namespace TK
open PySem PySem.Spec
open PyProof.Rows hiding St
open L2

/-! ## what is walked -/
def seqOf (d : D) (st : Store) : Option (List D) := match d with
  | .tup ds => some ds
  | .ref n => match st[n]? with
    | some (.lst ds) => some ds
    | some (.rol ds) => some ds
    | _ => none
  | _ => none
/-- the items, and the object of the store that must stay as it is meanwhile -/
abbrev Its := List D × List (Nat × List D)
def gOK (g : Its) (st : Store) : Prop := ∀ p ∈ g.2, seqOf (.ref p.1) st = some p.2
@[simp] theorem gOK_nil (ds : List D) (st : Store) : gOK (ds, []) st = True := by simp [gOK]
@[simp] theorem gOK_cons (ds ys : List D) (n : Nat) (l : List (Nat × List D)) (st : Store) : gOK (ds, (n, ys) :: l) st = (seqOf (.ref n) st = some ys ∧ gOK (ds, l) st) := by simp [gOK]
structure IterR (G : GX) (μ : List Addr) (H : Hp) (g : Its) (J : It) : Prop where
  go : ∀ μ1 H1 st1, Ext μ H μ1 H1 → HS G μ1 H1 st1 → gOK g st1 → ∀ i, i < g.1.length → J.go i H1
  yld : ∀ μ1 H1 st1, Ext μ H μ1 H1 → HS G μ1 H1 st1 → gOK g st1 → ∀ i x H2, i < g.1.length → J.yld i H1 x H2 → ∃ d, g.1[i]? = some d ∧ Ext μ1 H1 μ1 H2 ∧ HS G μ1 H2 st1 ∧ RelD G μ1 H2 d x
  stop : ∀ μ1 H1 st1, Ext μ H μ1 H1 → HS G μ1 H1 st1 → gOK g st1 → J.stop g.1.length H1
abbrev relI (G : GX) : RelT Its It := ⟨fun _ μ H g J => IterR G μ H g J, fun _ _ r => r⟩
abbrev IF := AEnv → Store → R Its
abbrev AI (X : Cx) (W : WX) (tg e : Expr) (f : IF) : Prop := PI X tg e (tG (gx X) W (relI (gx X)) f)
theorem _root_.L2.PI.weak {X : Cx} {tg e : Expr} {t t' : TI} (h : PI X tg e t) (k : ∀ σ H Q, t' σ H Q → t σ H Q) : PI X tg e t' := ⟨fun pins s σ H Q I q => h.run pins s σ H Q I (k _ _ _ q)⟩

section
variable {G : GX} {μ μ' : List Addr} {H H' : Hp} {st : Store}
/-- a tuple that stands -/
theorem IterR.tup {a : Addr} {vs : List V} {ds : List D} (hs : HS G μ H st) (q : SqT G.K H a vs) (r : RelDs G μ H ds vs) : IterR G μ H (ds, []) (Itt G.K a) where
  go := fun μ1 H1 st1 e hs1 _ i hi => ⟨vs, vs[i]'(by rw [r.length]; exact hi), SqT_ext hs e q, by simp [r.length, hi]⟩
  yld := fun μ1 H1 st1 e hs1 _ i x H2 hi y => by
    obtain ⟨e1, y⟩ := y
    subst e1
    have hx := y vs (SqT_ext hs e q)
    obtain ⟨d, e2, rd⟩ := r.get' hx
    exact ⟨d, e2, .refl, hs1, RelD.ext hs e d x rd⟩
  stop := fun μ1 H1 st1 e hs1 _ => ⟨vs, SqT_ext hs e q, by rw [r.length]; exact Nat.le_refl _⟩
theorem Ext.lst (e : Ext μ H μ' H') {a : Addr} (hn : a ∉ μ) {o : HO} (h : H a = some o) : H' a = some o := by
  obtain ⟨_, _, _, k⟩ := e
  exact k a o h hn
/-- a list that is not in the store -/
theorem IterR.lst {a : Addr} {vs : List V} {ds : List D} (hs : HS G μ H st) (hn : a ∉ μ) (q : H a = some (.lst vs)) (r : RelDs G μ H ds vs) : IterR G μ H (ds, []) (Itl G.K a) where
  go := fun μ1 H1 st1 e hs1 _ i hi => ⟨vs, vs[i]'(by rw [r.length]; exact hi), .of (e.lst hn q), by simp [r.length, hi]⟩
  yld := fun μ1 H1 st1 e hs1 _ i x H2 hi y => by
    obtain ⟨e1, y⟩ := y
    subst e1
    have hx := y vs (.of (e.lst hn q))
    obtain ⟨d, e2, rd⟩ := r.get' hx
    exact ⟨d, e2, .refl, hs1, RelD.ext hs e d x rd⟩
  stop := fun μ1 H1 st1 e hs1 _ => ⟨vs, .of (e.lst hn q), by rw [r.length]; exact Nat.le_refl _⟩
theorem HS.seq (hs : HS G μ H st) {n : Nat} {a : Addr} {ds : List D} (e : μ[n]? = some a) (q : seqOf (.ref n) st = some ds) : ∃ vs, SqL G.K H a vs ∧ RelDs G μ H ds vs := by
  obtain ⟨o, ho, e1, e2, r⟩ := hs.at e
  unfold seqOf at q
  simp only [e1] at q
  cases o with
  | lst ds' => simp at q; subst q; obtain ⟨vs, rfl, rs⟩ := r; exact ⟨vs, .of e2, rs⟩
  | rol ds' => simp at q; subst q; obtain ⟨ob, vs, rfl, rs⟩ := r; exact ⟨vs, .inl (.inr ⟨ob, e2⟩), rs⟩
  | ins c fs => simp at q
  | dct kvs => simp at q
  | dcT kvs => simp at q
/-- a list of the store -/
theorem IterR.ref {n : Nat} {a : Addr} {ds : List D} (e0 : μ[n]? = some a) : IterR G μ H (ds, [(n, ds)]) (Itl G.K a) where
  go := fun μ1 H1 st1 e hs1 g i hi => by
    obtain ⟨ν, rfl, _, _⟩ := e
    obtain ⟨vs, q, r⟩ := hs1.seq (by rw [List.getElem?_append_left (List.getElem?_eq_some_iff.mp e0).1]; exact e0) (g (n, ds) (by simp))
    exact ⟨vs, vs[i]'(by rw [r.length]; exact hi), q, by simp [r.length, hi]⟩
  yld := fun μ1 H1 st1 e hs1 g i x H2 hi y => by
    obtain ⟨ν, rfl, _, _⟩ := e
    obtain ⟨vs, q, r⟩ := hs1.seq (by rw [List.getElem?_append_left (List.getElem?_eq_some_iff.mp e0).1]; exact e0) (g (n, ds) (by simp))
    obtain ⟨e1, y⟩ := y
    subst e1
    obtain ⟨d, e2, rd⟩ := r.get' (y vs q)
    exact ⟨d, e2, .refl, hs1, rd⟩
  stop := fun μ1 H1 st1 e hs1 g => by
    obtain ⟨ν, rfl, _, _⟩ := e
    obtain ⟨vs, q, r⟩ := hs1.seq (by rw [List.getElem?_append_left (List.getElem?_eq_some_iff.mp e0).1]; exact e0) (g (n, ds) (by simp))
    exact ⟨vs, q, by rw [r.length]; exact Nat.le_refl _⟩
/-- a range -/
def rangeD (lo : Int) (n : Nat) : List D := (List.range n).map fun (i : Nat) => D.int (lo + (i : Int))
theorem rangeD_get (lo : Int) (n i : Nat) : (rangeD lo n)[i]? = if i < n then some (.int (lo + i)) else none := by
  unfold rangeD
  rw [List.getElem?_map]
  by_cases h : i < n
  · rw [if_pos h, List.getElem?_range h]; rfl
  · rw [if_neg h, List.getElem?_eq_none (by simpa using h)]; rfl
theorem rangeD_len (lo : Int) (n : Nat) : (rangeD lo n).length = n := by simp [rangeD]
theorem IterR.rng {lo : Int} {n : Nat} : IterR G μ H (rangeD lo n, []) (Itr lo n) where
  go := fun μ1 H1 st1 e hs1 _ i hi => by
    have h : i < n := by simpa [rangeD_len] using hi
    exact h
  yld := fun μ1 H1 st1 e hs1 _ i x H2 hi y => by
    obtain ⟨rfl, rfl⟩ := y
    have hi : i < n := by simpa [rangeD_len] using hi
    exact ⟨.int (lo + i), by rw [rangeD_get, if_pos hi], .refl, hs1, rfl⟩
  stop := fun μ1 H1 st1 e hs1 _ => by show n ≤ _; simp [rangeD_len]
end

section
variable {X : Cx} {W : WX} {e e2 tg : Expr} {es : List Expr} {fe : EF} {fq : LF} {fa : LF} {pos : Pos} {lv : Nat}
/-- a tuple or a list of the store, walked (which of both must be known) -/
def iTupF (fe : EF) : IF := fun env st => (fe env st).bind fun d st1 => match d with
  | .tup ds => .ok (ds, []) st1
  | _ => .bad
def iRefF (fe : EF) : IF := fun env st => (fe env st).bind fun d st1 => match d with
  | .ref n => (match seqOf (.ref n) st1 with
    | some ds => .ok (ds, [(n, ds)]) st1
    | none => .bad)
  | _ => .bad
def iLstF (fl : LF) : IF := fun env st => (fl env st).bind fun ds st1 => .ok (ds, []) st1
theorem ai_tup (he : AE X W e fe) : AI X W tg e (iTupF fe) := (pi_tup he).weak fun σ H Q ⟨μ, env, st, hs, er, p⟩ =>
  ⟨μ, env, st, hs, er, Post.bind p fun d st1 μ1 H1 v _ x1 hs1 r1 p1 => by
    cases d with
    | tup ds => obtain ⟨a, vs, e1, q, rs⟩ := r1; exact ⟨a, e1, ⟨vs, .of q⟩, p1 μ1 H1 _ .refl hs1 (.tup hs1 (.of q) rs)⟩
    | _ => exact p1.elim⟩
theorem ai_ref (he : AE X W e fe) : AI X W tg e (iRefF fe) := (pi_list he).weak fun σ H Q ⟨μ, env, st, hs, er, p⟩ =>
  ⟨μ, env, st, hs, er, Post.bind p fun d st1 μ1 H1 v _ x1 hs1 r1 p1 => by
    cases d with
    | ref n =>
      obtain ⟨a, e1, ev⟩ := r1
      simp only at p1
      split at p1
      · rename_i ds q
        obtain ⟨vs, q1, rs⟩ := hs1.seq e1 q
        exact ⟨a, ev, ⟨vs, q1⟩, p1 μ1 H1 _ .refl hs1 (.ref e1)⟩
      · exact p1.elim
    | _ => exact p1.elim⟩
theorem ai_lst (he : AL X W e fq) : AI X W tg e (iLstF fq) := (pi_list he).weak fun σ H Q ⟨μ, env, st, hs, er, p⟩ =>
  ⟨μ, env, st, hs, er, Post.bind p fun d st1 μ1 H1 v _ x1 hs1 r1 p1 => by
    obtain ⟨a, vs, e1, _, hn, q, rs⟩ := r1
    exact ⟨a, e1, ⟨vs, .of q⟩, p1 μ1 H1 _ .refl hs1 (.lst hs1 hn q rs)⟩⟩
noncomputable def rngR1 (j : Int) (st : Store) : R Its := hid (if -(2 ^ 62) ≤ j ∧ j < 2 ^ 62 then .ok (rangeD 0 j.toNat, []) st else .bad)
noncomputable def rngR (i j : Int) (st : Store) : R Its := hid (if -(2 ^ 62) ≤ i ∧ i < 2 ^ 62 ∧ -(2 ^ 62) ≤ j ∧ j < 2 ^ 62 then .ok (rangeD i (j - i).toNat, []) st else .bad)
noncomputable def iRng1F (fa : LF) : IF := fun env st => (fa env st).bind fun ds st1 => match ds with
  | [.int j] => rngR1 j st1
  | _ => .bad
noncomputable def iRng2F (fa : LF) : IF := fun env st => (fa env st).bind fun ds st1 => match ds with
  | [.int i, .int j] => rngR i j st1
  | _ => .bad
variable {a b : Expr} {p : Pos}
theorem ai_range1 (hm : X.mg "range" = none) (ha : AA X W [a] fa) (hg : Gl X "range" := by rfl) (hs1 : starEach [a] X.env = [(false, eval a X.env)] := by rfl) : AI X W tg (.Call (.Name "range" p) [a] [] pos) (iRng1F fa) :=
  (pi_range1 hg hm ha hs1).weak fun σ H Q ⟨μ, env, st, hs, er, q⟩ => ⟨μ, env, st, hs, er, Post.bind q fun ds st1 μ1 H1 vs eq x1 hs' rs p1 => by
    split at p1
    · rename_i j
      obtain ⟨v, rest, rfl, rd, e0⟩ := rs
      cases e0; cases rd
      unfold rngR1 at p1
      rw [hid_eq] at p1
      split at p1
      · rename_i h; exact ⟨j, rfl, h.1, h.2, p1 μ1 H1 _ .refl hs' .rng⟩
      · exact p1.elim
    · exact p1.elim⟩
theorem ai_range2 (hm : X.mg "range" = none) (ha : AA X W [a, b] fa) (hg : Gl X "range" := by rfl) (hs1 : starEach [a, b] X.env = [(false, eval a X.env), (false, eval b X.env)] := by rfl) (hs2 : starEach [b] X.env = [(false, eval b X.env)] := by rfl) :
    AI X W tg (.Call (.Name "range" p) [a, b] [] pos) (iRng2F fa) :=
  (pi_range2 hg hm ha hs1 hs2).weak fun σ H Q ⟨μ, env, st, hs, er, q⟩ => ⟨μ, env, st, hs, er, Post.bind q fun ds st1 μ1 H1 vs eq x1 hs' rs p1 => by
    split at p1
    · rename_i i j
      obtain ⟨v, rest, rfl, rd, v2, rest2, rfl, rd2, e0⟩ := rs
      cases e0; cases rd; cases rd2
      unfold rngR at p1
      rw [hid_eq] at p1
      split at p1
      · rename_i h; exact ⟨i, j, rfl, ⟨h.1, h.2.1, h.2.2.1, h.2.2.2⟩, p1 μ1 H1 _ .refl hs' .rng⟩
      · exact p1.elim
    · exact p1.elim⟩
end

/-! ## for -/
open Classical in
noncomputable def loopF (t : Tgt) (body : SF) (g : Its) : List D → AEnv → Store → RS
  | [], env, st => .next env st
  | d :: ds, env, st => match asgT t d env with
    | none => .bad
    | some env1 => match body env1 st with
      | .next e s => if gOK g s then loopF t body g ds e s else .bad
      | .cont e s => if gOK g s then loopF t body g ds e s else .bad
      | .brk e s => .next e s
      | r => r
open Classical in
noncomputable def sFor (t : Tgt) (fi : IF) (body : SF) : SF := fun env st => sOf (fi env st) env fun g st1 => if gOK g st1 then loopF t body g g.1 env st1 else .bad
section
variable {X : Cx} {W : WX} {tg iter : Expr} {body : List Stmt} {fi : IF} {fb : SF} {pos : Pos} {lv : Nat} {t : Tgt}
open Classical in
theorem as_for (c : Ctx X W lv) (hi : AI X W tg iter fi) (hg : AG X tg t) (hb : ASs X W body fb) (hs : ∀ x, foldedSetIterable iter X.env x = pure x := by intro _; rfl) : AS X W (.For tg iter body [] pos) (sFor t fi fb) :=
  (ps_for c.own c.calm hi hg hb hs).weak fun Dn σ H ⟨μ, env, st, hs, er, p⟩ => by
    refine ⟨μ, env, st, hs, er, PostS.bind p hs er fun g st1 μ1 H1 J _ x1 hs1 ir p1 => ?_⟩
    split at p1
    · rename_i g1
      refine ⟨fun i m σ2 H2 => i + m = g.1.length ∧ ∃ μ2 env2 st2, Ext μ1 H1 μ2 H2 ∧ HS (gx X) μ2 H2 st2 ∧ EnvR (gx X) μ2 H2 env2 σ2 ∧ gOK g st2 ∧ PostS (gx X) W μ2 H2 (loopF t fb g (g.1.drop i) env2 st2) Dn,
        ⟨g.1.length, by omega, μ1, env, st1, .refl, hs1, er.ext hs x1, g1, p1⟩, fun i m σ2 H2 w => ?_⟩
      obtain ⟨em, μ2, env2, st2, x2, hs2, er2, g2, p2⟩ := w
      by_cases hi : i < g.1.length
      · refine .inr ⟨ir.go μ2 H2 st2 x2 hs2 g2 i hi, fun σ' H' => ∃ m', m' < m ∧ i + 1 + m' = g.1.length ∧ ∃ μ2 env2 st2, Ext μ1 H1 μ2 H' ∧ HS (gx X) μ2 H' st2 ∧ EnvR (gx X) μ2 H' env2 σ' ∧ gOK g st2 ∧ PostS (gx X) W μ2 H' (loopF t fb g (g.1.drop (i + 1)) env2 st2) Dn,
          fun σ' H' n => by obtain ⟨m', h1, h2, h3⟩ := n; exact ⟨m', h1, h2, h3⟩, fun x H3 y => ?_⟩
        obtain ⟨d, ed, x3, hs3, rd⟩ := ir.yld μ2 H2 st2 x2 hs2 g2 i x H3 hi y
        have edrop : g.1.drop i = d :: g.1.drop (i + 1) := by
          rw [List.drop_eq_getElem_cons hi]
          rw [List.getElem?_eq_getElem hi] at ed
          cases ed; rfl
        rw [edrop] at p2
        unfold loopF at p2
        split at p2
        · exact p2.elim
        · rename_i env3 e3
          refine gT_ok (G := gx X) t (er2.ext hs2 x3) rd e3 fun σ3 er3 _ => ⟨μ2, env3, st2, hs3, er3, ?_⟩
          have p2 := PostS.later p2 x3
          have again : ∀ {e s} {μ' H' σ'}, PostS (gx X) W μ2 H3 (if gOK g s then loopF t fb g (List.drop (i + 1) g.fst) e s else RS.bad) Dn → Ext μ2 H3 μ' H' → HS (gx X) μ' H' s → EnvR (gx X) μ' H' e σ' →
              ∃ m', m' < m ∧ i + 1 + m' = g.1.length ∧ ∃ μ2 env2 st2, Ext μ1 H1 μ2 H' ∧ HS (gx X) μ2 H' st2 ∧ EnvR (gx X) μ2 H' env2 σ' ∧ gOK g st2 ∧ PostS (gx X) W μ2 H' (loopF t fb g (g.1.drop (i + 1)) env2 st2) Dn := by
            intro e s μ' H' σ' q xe hse ere
            split at q
            · rename_i gs
              exact ⟨m - 1, by omega, by omega, μ', e, s, (x2.trans x3).trans xe, hse, ere, gs, PostS.later q xe⟩
            · exact q.elim
          cases q : fb env3 st2 with
          | next e s => rw [q] at p2; exact fun μ' H' σ' xe hse ere => again p2 xe hse ere
          | cont e s => rw [q] at p2; exact fun μ' H' σ' xe hse ere => again p2 xe hse ere
          | brk e s => rw [q] at p2; exact fun μ' H' σ' xe hse ere => p2 μ' H' σ' xe hse ere
          | ret d s => rw [q] at p2; exact p2
          | exc e x s => rw [q] at p2; exact p2
          | bad => rw [q] at p2; exact p2
      · have e0 : i = g.1.length := by omega
        subst e0
        rw [List.drop_length] at p2
        exact .inl ⟨ir.stop μ2 H2 st2 x2 hs2 g2, p2 μ2 H2 σ2 .refl hs2 er2⟩
    · exact p1.elim
end

/-! ## while -/
def loopW (c : BF) (body : SF) : Nat → AEnv → Store → RS
  | 0, _, _ => .bad
  | n + 1, env, st => sOf (c env st) env fun b st1 => if b then (match body env st1 with
      | .next e s => loopW c body n e s
      | .cont e s => loopW c body n e s
      | .brk e s => .next e s
      | r => r) else .next env st1
section
variable {X : Cx} {W : WX} {c : Expr} {body : List Stmt} {fc : BF} {fb : SF} {pos : Pos} {lv : Nat}
theorem as_while (cx : Ctx X W lv) (n : Nat) (hc : AT X W c fc) (hb : ASs X W body fb) : AS X W (.While c body [] pos) (loopW fc fb n) := (ps_while cx.own hc hb).weak fun Dn σ H ⟨μ, env, st, hs, er, p⟩ => by
  refine ⟨fun m σ2 H2 => ∃ μ2 env2 st2, HS (gx X) μ2 H2 st2 ∧ EnvR (gx X) μ2 H2 env2 σ2 ∧ PostS (gx X) W μ2 H2 (loopW fc fb m env2 st2) Dn, ⟨n, μ, env, st, hs, er, p⟩, fun m σ2 H2 w => ?_⟩
  obtain ⟨μ2, env2, st2, hs2, er2, p2⟩ := w
  refine ⟨μ2, env2, st2, hs2, er2, ?_⟩
  cases m with
  | zero => exact p2.elim
  | succ m =>
    unfold loopW at p2
    refine PostS.bind p2 hs2 er2 fun b st3 μ3 H3 v _ x3 hs3 r3 p3 => ?_
    have r3 : v = b := r3
    subst r3
    cases v with
    | false => rw [if_neg (by decide)]; exact p3 μ3 H3 σ2 .refl hs3 (er2.ext hs2 x3)
    | true =>
      rw [if_pos rfl]
      rw [if_pos rfl] at p3
      refine ⟨fun σ' H' => ∃ μ2 env2 st2, HS (gx X) μ2 H' st2 ∧ EnvR (gx X) μ2 H' env2 σ' ∧ PostS (gx X) W μ2 H' (loopW fc fb m env2 st2) Dn, fun σ' H' h => ⟨m, Nat.lt_succ_self m, h⟩, μ3, env2, st3, hs3, er2.ext hs2 x3, ?_⟩
      cases q : fb env2 st3 with
      | next e s => rw [q] at p3; exact fun μ' H' σ' xe hse ere => ⟨μ', e, s, hse, ere, PostS.later p3 xe⟩
      | cont e s => rw [q] at p3; exact fun μ' H' σ' xe hse ere => ⟨μ', e, s, hse, ere, PostS.later p3 xe⟩
      | brk e s => rw [q] at p3; exact fun μ' H' σ' xe hse ere => p3 μ' H' σ' xe hse ere
      | ret d s => rw [q] at p3; exact p3
      | exc e x s => rw [q] at p3; exact p3
      | bad => rw [q] at p3; exact p3
end

/-! ## list comprehensions -/
/-- at such an address stands no tuple -/
def NoTup (H : Hp) (a : Addr) : Prop := ∀ zs, ¬ Rd H a (.tup zs)
theorem NoTup.of {H : Hp} {a : Addr} {o : HO} (h : H a = some o) (h1 : ∀ zs, o ≠ .tup zs) (h2 : ∀ ob zs, o ≠ .frz ob (.tup zs)) : NoTup H a := fun zs r => by
  rcases r with r | ⟨ob, r⟩
  · rw [h] at r; exact h1 zs (Option.some.inj r)
  · rw [h] at r; exact h2 ob zs (Option.some.inj r)
theorem NoTup.lst {H : Hp} {a : Addr} {xs : List V} (h : H a = some (.lst xs)) : NoTup H a := .of h (fun _ z => by cases z) (fun _ _ z => by cases z)
section
variable {G : GX} {μ : List Addr} {H : Hp} {st : Store} {D0 : Addr} {o' : HO}
theorem SqT_upd (e : NoTup H D0) {a : Addr} {vs : List V} (q : SqT G.K H a vs) : SqT G.K (upd H D0 o') a vs := by
  rcases q with q | q
  · have hn : a ≠ D0 := fun z => e vs (z ▸ q)
    rcases q with q | ⟨ob, q⟩
    · exact .inl (.inl (by rw [upd_ne hn]; exact q))
    · exact .inl (.inr ⟨ob, by rw [upd_ne hn]; exact q⟩)
  · exact .inr q
theorem Tup_upd (e : NoTup H D0) {a : Addr} {vs : List V} (q : H a = some (.tup vs)) : upd H D0 o' a = some (.tup vs) := by
  have q' : Rd H a (.tup vs) := .inl q
  have hn : a ≠ D0 := fun z => e vs (z ▸ q')
  rw [upd_ne hn]; exact q
mutual
theorem RelD.wr (e : NoTup H D0) : ∀ (d : D) (v : V), RelD G μ H d v → RelD G μ (upd H D0 o') d v
  | .non, _, r => r
  | .bl _, _, r => r
  | .int _, _, r => r
  | .str _, _, r => r
  | .cls _, _, r => r
  | .ref n, _, r => r
  | .tup ds, _, r => by obtain ⟨a, vs, e1, q, rs⟩ := r; exact ⟨a, vs, e1, Tup_upd e q, RelDs.wr e ds vs rs⟩
theorem RelDs.wr (e : NoTup H D0) : ∀ (ds : List D) (vs : List V), RelDs G μ H ds vs → RelDs G μ (upd H D0 o') ds vs
  | [], _, r => r
  | d :: ds, _, r => by obtain ⟨v, rest, e1, rd, rs⟩ := r; exact ⟨v, rest, e1, RelD.wr e d v rd, RelDs.wr e ds rest rs⟩
end
theorem RelF.wr (e : NoTup H D0) : ∀ {fs : List (Str × D)} {vs : List (Str × V)}, RelF G μ H fs vs → RelF G μ (upd H D0 o') fs vs
  | [], _, r => r
  | (x, d) :: fs, _, r => by obtain ⟨v, rest, e1, rd, rs⟩ := r; exact ⟨v, rest, e1, RelD.wr e d v rd, RelF.wr e rs⟩
theorem RelK.wr {κ : Type} {f : D → Option κ} (e : NoTup H D0) : ∀ {fs : List (D × D)} {vs : List (κ × V)}, RelK G μ H f fs vs → RelK G μ (upd H D0 o') f fs vs
  | [], _, r => r
  | (x, d) :: fs, _, r => by obtain ⟨k, v, rest, e1, ek, rd, rs⟩ := r; exact ⟨k, v, rest, e1, ek, RelD.wr e d v rd, RelK.wr e rs⟩
theorem HObj.wr (e : NoTup H D0) {o : AO} {ho : HO} (r : HObj G μ H o ho) : HObj G μ (upd H D0 o') o ho := by
  cases o with
  | lst ds => obtain ⟨vs, e1, rs⟩ := r; exact ⟨vs, e1, RelDs.wr e _ _ rs⟩
  | rol ds => obtain ⟨ob, vs, e1, rs⟩ := r; exact ⟨ob, vs, e1, RelDs.wr e _ _ rs⟩
  | ins c' fs => obtain ⟨C, dx, vs, e1, m, rs⟩ := r; exact ⟨C, dx, vs, e1, m, rs.wr e⟩
  | dct kvs => obtain ⟨ks, e1, rs⟩ := r; exact ⟨ks, e1, rs.wr e⟩
  | dcT kvs => obtain ⟨ks, e1, rs⟩ := r; exact ⟨ks, e1, rs.wr e⟩
/-- a list that is not in the store is written -/
theorem HS.wr (hs : HS G μ H st) (hn : D0 ∉ μ) (e : NoTup H D0) : HS G μ (upd H D0 o') st :=
  ⟨hs.nd, hs.len, fun i a o e1 e2 => by
    obtain ⟨ho, e3, r⟩ := hs.obj i a o e1 e2
    exact ⟨ho, by rw [upd_ne fun z => hn (by rw [← z]; exact List.mem_of_getElem? e1)]; exact e3, r.wr e⟩⟩
/-- an object of the store is written -/
theorem HS.put (hs : HS G μ H st) {n : Nat} (hn : μ[n]? = some D0) {ao : AO} (r : HObj G μ H ao o') : HS G μ (upd H D0 o') (st.set n ao) := by
  obtain ⟨o0, h0, e0, e1, r0⟩ := hs.at hn
  have nt : NoTup H D0 := .of e1 (fun zs => (r0.noTup zs).1) fun ob zs => (r0.noTup zs).2 ob
  refine ⟨hs.nd, by simp [hs.len], fun i a o q1 q2 => ?_⟩
  by_cases hi : n = i
  · subst hi
    rw [hn] at q1; cases q1
    rw [List.getElem?_set_self (List.getElem?_eq_some_iff.mp e0).1] at q2
    cases q2
    exact ⟨o', upd_same, r.wr nt⟩
  · rw [List.getElem?_set_ne hi] at q2
    obtain ⟨ho, q3, r3⟩ := hs.obj i a o q1 q2
    refine ⟨ho, ?_, r3.wr nt⟩
    rw [upd_ne]
    · exact q3
    · intro z
      subst z
      obtain ⟨h1, e2⟩ := List.getElem?_eq_some_iff.mp hn
      obtain ⟨h2, e3⟩ := List.getElem?_eq_some_iff.mp q1
      exact hi ((List.getElem_inj hs.nd).mp (e2.trans e3.symm))
theorem HS.noTupAt (hs : HS G μ H st) {n : Nat} (hn : μ[n]? = some D0) : NoTup H D0 := by
  obtain ⟨o0, h0, e0, e1, r0⟩ := hs.at hn
  exact .of e1 (fun zs => (r0.noTup zs).1) fun ob zs => (r0.noTup zs).2 ob
theorem Ext.put {n : Nat} (hn : μ[n]? = some D0) : Ext μ H μ (upd H D0 o') := ⟨[], by simp, by simp, fun a o e h => by
  rw [upd_ne fun z => h (by rw [z]; exact List.mem_of_getElem? hn)]; exact e⟩
theorem EnvR.wr {env : AEnv} {σ : St} (r : EnvR G μ H env σ) (e : NoTup H D0) : EnvR G μ (upd H D0 o') env σ :=
  ⟨r.1, fun i d q => by obtain ⟨v, e1, rd⟩ := r.2 i d q; exact ⟨v, e1, RelD.wr e d v rd⟩⟩
theorem Ext.wr {μ' : List Addr} {H' : Hp} (x : Ext μ H μ' H') (h0 : H D0 = none) : Ext μ H μ' (upd H' D0 o') := by
  obtain ⟨ν, rfl, f, k⟩ := x
  exact ⟨ν, rfl, f, fun a o e hn => by rw [upd_ne (ne_of_none e h0)]; exact k a o e hn⟩
end
def wipeE (env : AEnv) : List Nat → AEnv
  | [] => env
  | v :: vs => (wipeE env vs).set v none
theorem EnvR.wipe {G : GX} {μ : List Addr} {H : Hp} {env : AEnv} {σ : St} (r : EnvR G μ H env σ) : ∀ vs : List Nat, EnvR G μ H (wipeE env vs) (wipe σ vs)
  | [] => r
  | v :: vs => by
    have r := EnvR.wipe r vs
    unfold wipeE L2.wipe
    refine ⟨by simp [r.1], fun j d q => ?_⟩
    by_cases hj : v = j
    · subst hj
      by_cases hv : v < (wipeE env vs).length
      · rw [List.getElem?_set_self hv] at q; cases q
      · rw [List.getElem?_eq_none (by simp; omega)] at q; cases q
    · rw [List.getElem?_set_ne hj] at q
      obtain ⟨v', e1, rd'⟩ := r.2 j d q
      exact ⟨v', by rw [List.getElem?_set_ne hj]; exact e1, rd'⟩
open Classical in
noncomputable def compL (t : Tgt) (c : BF) (elt : EF) (g : Its) : List D → AEnv → Store → R (List D)
  | [], _, st => .ok [] st
  | d :: ds, env, st => match asgT t d env with
    | none => .bad
    | some env1 => (c env1 st).bind fun b st1 => if b then (elt env1 st1).bind fun y st2 => (if gOK g st2 then (compL t c elt g ds env st2).bind fun ys st3 => .ok (y :: ys) st3 else .bad)
      else (if gOK g st1 then compL t c elt g ds env st1 else .bad)
def noX {α : Type} : R α → R α
  | .ok a st => .ok a st
  | _ => .bad
@[simp] theorem noX_ok {α : Type} (a : α) (st : Store) : noX (.ok a st) = .ok a st := rfl
open Classical in
noncomputable def compF (vs : List Nat) (fi : IF) (t : Tgt) (c : BF) (elt : EF) : LF := fun env st => (fi env st).bind fun g st1 => if gOK g st1 ∧ g.1.length ≤ sizeLine then noX (compL t c elt g g.1 (wipeE env vs) st1) else .bad
/-- no test -/
def bYes : BF := fun _ st => .ok true st
abbrev W0 : WX := fun _ _ _ _ => False
abbrev ATs (X : Cx) (W : WX) (es : List Expr) (f : BF) : Prop := PTs X es (tG (gx X) W relB f)
theorem _root_.L2.PTs.weak {X : Cx} {es : List Expr} {t t' : TT} (h : PTs X es t) (k : ∀ σ H Q, t' σ H Q → t σ H Q) : PTs X es t' := ⟨fun pins s σ H Q I q => h.run pins s σ H Q I (k _ _ _ q)⟩
section
variable {X : Cx} {W : WX} {e : Expr} {f : BF}
theorem ats_nil : ATs X W [] bYes := pts_nil.weak fun σ H Q ⟨μ, env, st, hs, er, p⟩ => p μ H true .refl hs rfl
theorem ats_one (h : AT X W e f) : ATs X W [e] f := pts_one h
end
section
variable {X : Cx} {W : WX} {elt tg iter : Expr} {ifs : List Expr} {scope : Scope} {own : List (Str × Nat)} {pos : Pos} {fi : IF} {t : Tgt} {fc : BF} {fe : EF} {lv : Nat}
theorem comp_t {vs : List Nat} (hv : ∀ i ∈ slotsT t, i ∈ vs) {σ : St} {H : Hp} {Q : VK} (h : tG (gx X) W (relL (gx X)) (compF vs fi t fc fe) σ H Q) :
    tLc (tG (gx X) W (relI (gx X)) fi) (gT X.K t) (tG (gx X) W0 relB fc) (tG (gx X) W0 (relD (gx X)) fe) vs σ H Q := by
  obtain ⟨μ, env, st, hs, er, p⟩ := h
  refine ⟨μ, env, st, hs, er, Post.bind0 p fun g st1 μ1 H1 J _ x1 hs1 ir p1 D hD => ?_⟩
  split at p1
  · rename_i gg
    have hDμ : D ∉ μ1 := hs1.fresh hD
    have hD0 : H D = none := Ext.back x1 .refl hDμ hD
    have whole : ∃ ys stN, compL t fc fe g g.1 (wipeE env vs) st1 = .ok ys stN ∧ Post (gx X) W (relL (gx X)) σ μ H (.ok ys stN) Q := by
      cases q : compL t fc fe g g.1 (wipeE env vs) st1 with
      | ok ys stN => rw [q] at p1; exact ⟨ys, stN, rfl, p1⟩
      | exc x s => rw [q] at p1; exact p1.elim
      | bad => rw [q] at p1; exact p1.elim
    obtain ⟨ys, stN, eN, pN⟩ := whole
    refine ⟨fun i m H2 => i + m = g.1.length ∧ ∃ μ2 st2 acc accV rest, Ext μ1 H1 μ2 H2 ∧ HS (gx X) μ2 H2 st2 ∧ D ∉ μ2 ∧ H2 D = some (.lst accV) ∧ RelDs (gx X) μ2 H2 acc accV ∧ acc.length ≤ i ∧ gOK g st2 ∧
        compL t fc fe g (g.1.drop i) (wipeE env vs) st2 = .ok rest stN ∧ ys = acc ++ rest,
      ⟨g.1.length, by omega, μ1, st1, [], [], ys, Ext.new hD, hs1.new hD, hDμ, upd_same, rfl, by simp, gg.1, eN, by simp⟩, fun i m H2 w => ?_⟩
    obtain ⟨em, μ2, st2, acc, accV, rest, x2, hs2, hn2, hD2, ra, hl, g2, e2, ey⟩ := w
    by_cases hi : i < g.1.length
    · refine .inr ⟨ir.go μ2 H2 st2 x2 hs2 g2 i hi, fun H' => ∃ m', m' < m ∧ i + 1 + m' = g.1.length ∧ ∃ μ2 st2 acc accV rest, Ext μ1 H1 μ2 H' ∧ HS (gx X) μ2 H' st2 ∧ D ∉ μ2 ∧ H' D = some (.lst accV) ∧ RelDs (gx X) μ2 H' acc accV ∧ acc.length ≤ i + 1 ∧ gOK g st2 ∧
        compL t fc fe g (g.1.drop (i + 1)) (wipeE env vs) st2 = .ok rest stN ∧ ys = acc ++ rest,
        fun H' n => by obtain ⟨m', h1, h2, h3⟩ := n; exact ⟨m', h1, h2, h3⟩, fun x H3 y => ?_⟩
      obtain ⟨d, ed, x3, hs3, rd⟩ := ir.yld μ2 H2 st2 x2 hs2 g2 i x H3 hi y
      have edrop : g.1.drop i = d :: g.1.drop (i + 1) := by
        rw [List.drop_eq_getElem_cons hi]
        rw [List.getElem?_eq_getElem hi] at ed
        cases ed; rfl
      rw [edrop] at e2
      unfold compL at e2
      split at e2
      · cases e2
      · rename_i env3 e3
        refine gT_ok (G := gx X) t (((er.ext hs x1).wipe vs).ext hs1 (x2.trans x3)) rd e3 fun σ3 er3 hw => ⟨by rw [hw vs hv, wipe_wipe], μ2, env3, st2, hs3, er3, ?_⟩
        cases qc : fc env3 st2 with
        | exc x s => rw [qc] at e2; cases e2
        | bad => rw [qc] at e2; cases e2
        | ok b st4 =>
          rw [qc, R.bind_ok] at e2
          intro μ4 H4 v4 x4 hs4 r4
          have r4 : v4 = b := r4
          subst r4
          have nD : ∀ {μ' : List Addr} {H' : Hp}, Ext μ2 H3 μ' H' → D ∉ μ' ∧ H' D = some (.lst accV) := fun {μ' H'} xe => by
            have h3 := x3.lst hn2 hD2
            refine ⟨?_, xe.lst hn2 h3⟩
            obtain ⟨ν, rfl, f, _⟩ := xe
            intro hm
            rcases List.mem_append.mp hm with z | z
            · exact hn2 z
            · rw [(f D z).1] at h3; cases h3
          cases v4 with
          | false =>
            rw [if_neg (by decide)] at e2 ⊢
            split at e2
            · rename_i g4
              exact ⟨m - 1, by omega, by omega, μ4, st4, acc, accV, rest, (x2.trans x3).trans x4, hs4, (nD x4).1, (nD x4).2, RelDs.ext hs2 (x3.trans x4) _ _ ra, by omega, g4, e2, ey⟩
            · cases e2
          | true =>
            rw [if_pos rfl] at e2 ⊢
            refine ⟨μ4, env3, st4, hs4, er3.ext hs3 x4, ?_⟩
            cases qe : fe env3 st4 with
            | exc x s => rw [qe] at e2; cases e2
            | bad => rw [qe] at e2; cases e2
            | ok yd st5 =>
              rw [qe, R.bind_ok] at e2
              split at e2
              · rename_i g5
                intro μ5 H5 v5 x5 hs5 r5
                obtain ⟨nD5, eD5⟩ := nD (x4.trans x5)
                refine ⟨accV, eD5, ?_, m - 1, by omega, by omega, μ5, st5, acc ++ [yd], accV ++ [v5], ?_⟩
                · rw [ra.length]; exact Nat.lt_of_le_of_lt hl (Nat.lt_of_lt_of_le hi gg.2)
                · cases qr : compL t fc fe g (List.drop (i + 1) g.fst) (wipeE env vs) st5 with
                  | exc x s => rw [qr] at e2; cases e2
                  | bad => rw [qr] at e2; cases e2
                  | ok rs st6 =>
                    rw [qr, R.bind_ok] at e2
                    cases e2
                    refine ⟨rs, (((x2.trans x3).trans x4).trans x5).wr hD, hs5.wr nD5 (.lst eD5), nD5, upd_same, ?_, by simp; omega, g5, rfl, by rw [ey]; simp⟩
                    exact (RelDs.wr (.lst eD5) _ _ (RelDs.ext hs2 ((x3.trans x4).trans x5) _ _ ra)).append (.one (RelD.wr (.lst eD5) _ _ r5))
              · cases e2
    · have e0 : i = g.1.length := by omega
      subst e0
      rw [List.drop_length] at e2
      cases e2
      rw [List.append_nil] at ey
      subst ey
      exact .inl ⟨ir.stop μ2 H2 _ x2 hs2 g2, pN μ2 H2 _ (x1.trans x2) hs2 ⟨D, accV, rfl, hD0, hn2, hD2, ra⟩⟩
  · exact p1.elim
abbrev bX (X : Cx) (scope : Scope) (s : Shared) (H : Hp) (C : Addr) (cl : List (Str × Addr)) (fp : List Addr) : Cx := X.blk s H scope (compEnvC scope cl C X.env) fp
theorem Ctx.blk (c : Ctx X W lv) (s : Shared) (H : Hp) (C : Addr) (cl : List (Str × Addr)) (fp : List Addr) : Ctx (bX X scope s H C cl fp) W0 lv := ⟨c.nd, c.calm, c.room, PassesOwn.never, takes0⟩
theorem al_comp (c : Ctx X W lv) (hi : AI X W tg iter fi) (own : List (Str × Nat)) (ok : BlkOk X.N X.env.scope scope own)
    (hg : ∀ s H C cl fp, AG (bX X scope s H C cl fp) tg t) (hc : ∀ s H C cl fp, ATs (bX X scope s H C cl fp) W0 ifs fc) (he : ∀ s H C cl fp, AE (bX X scope s H C cl fp) W0 elt fe)
    (hv : ∀ i ∈ slotsT t, i ∈ own.map (·.2) := by decide) (hs : ∀ x, foldedSetIterable iter X.env x = pure x := by intro _; rfl) : AL X W (.ListComp elt [⟨tg, iter, ifs, 0⟩] scope pos) (compF (own.map (·.2)) fi t fc fe) :=
  (pe_lc (g := gT X.K t) (tt := tG (gx X) W0 relB fc) (te := tG (gx X) W0 (relD (gx X)) fe) c.calm c.nd hi ok hg hc he hs).weak fun σ H Q h => comp_t hv h
end
end TK

set_option Elab.async false
set_option linter.all false
set_option maxRecDepth 100000
set_option maxHeartbeats 4000000
namespace TK
open PySem PySem.Spec
open PyProof.Rows hiding St
open L2

/-! ## operators -/
section
variable {X : Cx} {f : Value → Value → Sem Value} {r r' : R2}
theorem OpR_or (a : OpR X f r) (b : OpR X f r') : OpR X f (fun x y H Q => r x y H Q ∨ r' x y H Q) := fun pins s σ H x y v u Q I rx ry h => h.elim (a pins s σ H x y v u Q I rx ry) (b pins s σ H x y v u Q I rx ry)
theorem CallR_or {f : Value} {r r' : List V → Hp → VK → Prop} (a : CallR X f r) (b : CallR X f r') : CallR X f (fun x H Q => r x H Q ∨ r' x H Q) := fun pins s σ H xs us Q I rx h => h.elim (a pins s σ H xs us Q I rx) (b pins s σ H xs us Q I rx)
end
def addD (x y : D) (st : Store) : R D := match x, y with
  | .int i, .int j => .ok (.int (i + j)) st
  | .int i, .bl k => .ok (.int (i + b2i k)) st
  | .str a, .str b => if a.length + b.length ≤ sizeLine then .ok (.str (a ++ b)) st else .bad
  | .tup xs, .tup ys => if xs.length + ys.length ≤ sizeLine then .ok (.tup (xs ++ ys)) st else .bad
  | .ref n, .ref m => match st[n]?, st[m]? with
    | some (.lst xs), some (.lst ys) => if xs.length + ys.length ≤ sizeLine then .ok (.ref st.length) (st ++ [.lst (xs ++ ys)]) else .bad
    | _, _ => .bad
  | _, _ => .bad
abbrev rAdds (K : PySem.W.Frag) : R2 := fun x y H Q => (rI0 (fun i j => .int (i + j))) x y H Q ∨ ((fun x y H Q => ∃ i k, x = .int i ∧ y = .bl k ∧ Q (.int (i + b2i k)) H : R2) x y H Q) ∨
  ((fun x y H Q => ∃ i j, x = .str i ∧ y = .str j ∧ i.length + j.length ≤ sizeLine ∧ Q (.str (i ++ j)) H : R2) x y H Q) ∨ rCatA K x y H Q ∨ rCat x y H Q
theorem op_adds {X : Cx} : OpR X (binaryOp .Add) (rAdds X.K) := OpR_or op_add (OpR_or op_add_ib (OpR_or op_add_str (OpR_or op_catA op_cat)))
theorem addA {G : GX} : OpA G addD (rAdds G.K) := by
  intro W σ μ H st x y v u Q hs rx ry p
  unfold addD at p
  split at p
  · cases rx; cases ry; exact .inl ⟨_, _, rfl, rfl, p μ H _ .refl hs rfl⟩
  · cases rx; cases ry; exact .inr (.inl ⟨_, _, rfl, rfl, p μ H _ .refl hs rfl⟩)
  · cases rx; cases ry
    split at p
    · rename_i hz; exact .inr (.inr (.inl ⟨_, _, rfl, rfl, hz, p μ H _ .refl hs rfl⟩))
    · exact p.elim
  · split at p
    · rename_i hz
      obtain ⟨a, vs, rfl, ha, ra⟩ := rx
      obtain ⟨b, us, rfl, hb, rb⟩ := ry
      refine .inr (.inr (.inr (.inl ⟨a, b, vs, us, rfl, rfl, .of ha, .of hb, by rw [ra.length, rb.length]; exact hz, fun e => ?_, fun _ e => ?_, fun _ _ q hq => ?_⟩)))
      · subst e
        refine p μ H _ .refl hs ⟨b, us, rfl, hb, ?_⟩
        have := ra.append rb
        simpa using this
      · subst e
        refine p μ H _ .refl hs ⟨a, vs, rfl, ha, ?_⟩
        have := ra.append rb
        simpa using this
      · exact p μ _ _ (.new hq) (hs.new hq) ⟨q, vs ++ us, rfl, upd_same, RelDs.ext hs (.new hq) _ _ (ra.append rb)⟩
    · exact p.elim
  · rename_i n m
    obtain ⟨a, ea, rfl⟩ := rx
    obtain ⟨b, eb, rfl⟩ := ry
    split at p
    · rename_i xs ys e1 e2
      obtain ⟨_, h1, vs, rfl, r1⟩ := hs.obj n a _ ea e1
      obtain ⟨_, h2, us, rfl, r2⟩ := hs.obj m b _ eb e2
      split at p
      · rename_i hz
        refine .inr (.inr (.inr (.inr ⟨a, b, vs, us, rfl, rfl, h1, h2, by rw [r1.length, r2.length]; exact hz, fun q hq => ?_⟩)))
        have hp := hs.push (ao := .lst (xs ++ ys)) (o := .lst (vs ++ us)) hq ⟨_, rfl, r1.append r2⟩
        refine p _ _ _ hp.2 hp.1 ⟨q, ?_, rfl⟩
        rw [← hs.len, List.getElem?_append_right (Nat.le_refl _)]; simp
      · exact p.elim
    · exact p.elim
  · exact p.elim
def subD (x y : D) (st : Store) : R D := match x, y with
  | .int i, .int j => .ok (.int (i - j)) st
  | _, _ => .bad
theorem subA {G : GX} : OpA G subD (rI0 fun i j => .int (i - j)) := by
  intro W σ μ H st x y v u Q hs rx ry p
  unfold subD at p
  split at p
  · cases rx; cases ry; exact ⟨_, _, rfl, rfl, p μ H _ .refl hs rfl⟩
  · exact p.elim
def mulOk (i j : Int) : Prop := i.natAbs.log2 + j.natAbs.log2 < 1000000
instance (i j : Int) : Decidable (mulOk i j) := by unfold mulOk; infer_instance
theorem mulOk_lt {i j : Int} (h : i.natAbs < 2 ^ 64) (h' : j.natAbs < 2 ^ 1000) : mulOk i j := wide_mul h h' (by decide) (by decide) (by decide)
def mulD (x y : D) (st : Store) : R D := match x, y with
  | .int i, .int j => if mulOk i j then .ok (.int (i * j)) st else .bad
  | .tup xs, .int k => if -1000000 ≤ k ∧ k ≤ 1000 ∧ xs.length ≤ 1000 then .ok (.tup (List.replicate k.toNat xs).flatten) st else .bad
  | _, _ => .bad
theorem RelDs.rep {G : GX} {μ : List Addr} {H : Hp} {ds : List D} {vs : List V} (r : RelDs G μ H ds vs) : ∀ k : Nat, RelDs G μ H (List.replicate k ds).flatten (List.replicate k vs).flatten
  | 0 => rfl
  | k + 1 => by rw [List.replicate_succ, List.replicate_succ, List.flatten_cons, List.flatten_cons]; exact r.append (RelDs.rep r k)
theorem mulA {G : GX} : OpA G mulD (fun x y H Q => rI CMulW (fun i j => .int (i * j)) x y H Q ∨ rRepA G.K x y H Q) := by
  intro W σ μ H st x y v u Q hs rx ry p
  unfold mulD at p
  split at p
  · cases rx; cases ry
    split at p
    · rename_i hz; exact .inl ⟨_, _, rfl, rfl, hz, p μ H _ .refl hs rfl⟩
    · exact p.elim
  · cases ry
    obtain ⟨a, vs, rfl, ha, ra⟩ := rx
    split at p
    · rename_i hz
      refine .inr ⟨a, _, vs, rfl, rfl, .of ha, hz.1, hz.2.1, by rw [ra.length]; exact hz.2.2, fun e => ?_, fun _ _ q hq => ?_⟩
      · refine p μ H _ .refl hs ⟨a, vs, rfl, ha, ?_⟩
        rcases e with e | e
        · subst e
          have hx := List.eq_nil_of_length_eq_zero (ra.length).symm
          subst hx
          have : ∀ k : Nat, (List.replicate k ([] : List D)).flatten = [] := fun k => by induction k <;> simp_all [List.replicate_succ]
          rw [this]; exact ra
        · subst e; simpa using ra
      exact p μ _ _ (.new hq) (hs.new hq) ⟨q, _, rfl, upd_same, RelDs.ext hs (.new hq) _ _ (ra.rep _)⟩
    · exact p.elim
  · exact p.elim
theorem op_muls {X : Cx} : OpR X (binaryOp .Mult) (fun x y H Q => rI CMulW (fun i j => .int (i * j)) x y H Q ∨ rRepA X.K x y H Q) := OpR_or op_mulW op_repA
def divOk (j : Int) : Prop := 0 < j ∧ j.natAbs.log2 < 9000
instance (j : Int) : Decidable (divOk j) := by unfold divOk; infer_instance
theorem divOk_lt {j : Int} (h : 0 < j) (h' : j.natAbs < 2 ^ 1000) : divOk j := wide_div (i := 0) h h' (by decide) (by decide)
def divD (x y : D) (st : Store) : R D := match x, y with
  | .int i, .int j => if divOk j then .ok (.int (i / j)) st else .bad
  | _, _ => .bad
theorem divA {G : GX} : OpA G divD (rI CDivW fun i j => .int (i / j)) := by
  intro W σ μ H st x y v u Q hs rx ry p
  unfold divD at p
  split at p
  · cases rx; cases ry
    split at p
    · rename_i hz; exact ⟨_, _, rfl, rfl, hz, p μ H _ .refl hs rfl⟩
    · exact p.elim
  · exact p.elim
def modD (x y : D) (st : Store) : R D := match x, y with
  | .int i, .int j => if 0 < j then .ok (.int (i % j)) st else .bad
  | _, _ => .bad
theorem modA {G : GX} : OpA G modD (rI (fun _ j => 0 < j) fun i j => .int (i % j)) := by
  intro W σ μ H st x y v u Q hs rx ry p
  unfold modD at p
  split at p
  · cases rx; cases ry
    split at p
    · rename_i hz; exact ⟨_, _, rfl, rfl, hz, p μ H _ .refl hs rfl⟩
    · exact p.elim
  · exact p.elim
def powD (x y : D) (st : Store) : R D := match x, y with
  | .int i, .int j => if 0 ≤ j ∧ j ≤ 1000000 ∧ i.natAbs < 2 ^ 64 then .ok (.int (i ^ j.toNat)) st else .bad
  | _, _ => .bad
theorem powA {G : GX} : OpA G powD (rI CPow fun i j => .int (i ^ j.toNat)) := by
  intro W σ μ H st x y v u Q hs rx ry p
  unfold powD at p
  split at p
  · cases rx; cases ry
    split at p
    · rename_i hz; exact ⟨_, _, rfl, rfl, hz, p μ H _ .refl hs rfl⟩
    · exact p.elim
  · exact p.elim
def negD (x : D) (st : Store) : R D := match x with
  | .int i => .ok (.int (-i)) st
  | _ => .bad
theorem negA {G : GX} : UnA G negD (rU fun i => .int (-i)) := by
  intro W σ μ H st x v Q hs rx p
  unfold negD at p
  split at p
  · cases rx; exact ⟨_, rfl, p μ H _ .refl hs rfl⟩
  · exact p.elim
def intCmp (g : Int → Int → Bool) (x y : D) (st : Store) : R D := match x, y with
  | .int i, .int j => .ok (.bl (g i j)) st
  | _, _ => .bad
theorem intCmpA {G : GX} {g : Int → Int → Bool} : OpA G (intCmp g) (rI0 fun i j => .bl (g i j)) := by
  intro W σ μ H st x y v u Q hs rx ry p
  unfold intCmp at p
  split at p
  · cases rx; cases ry; exact ⟨_, _, rfl, rfl, p μ H _ .refl hs rfl⟩
  · exact p.elim
abbrev ltD : D → D → Store → R D := intCmp fun i j => decide (i < j)
abbrev leD : D → D → Store → R D := intCmp fun i j => decide (i ≤ j)
abbrev gtD : D → D → Store → R D := intCmp fun i j => decide (j < i)
abbrev geD : D → D → Store → R D := intCmp fun i j => decide (j ≤ i)

/-! ## equality of data -/
mutual
def toPw (f : Nat → Option PyData) : D → Option PyData
  | .non => some .none
  | .bl b => some (.bool b)
  | .int i => some (.int i)
  | .str x => some (.str x)
  | .tup ds => (toPws f ds).map .tuple
  | .ref n => f n
  | .cls _ => none
def toPws (f : Nat → Option PyData) : List D → Option (List PyData)
  | [] => some []
  | d :: ds => match toPw f d, toPws f ds with
    | some p, some ps => some (p :: ps)
    | _, _ => none
end
def toP (st : Store) : Nat → D → Option PyData
  | 0 => toPw fun _ => none
  | n + 1 => toPw fun k => match seqOf (.ref k) st with
    | some ds => (ds.mapM (toP st n)).map .list
    | none => none
def eqP (x y : D) (st : Store) : Option Bool := match toP st 50 x, toP st 50 y with
  | some p, some q => if SeqAt.shaped p = true ∧ SeqAt.shaped q = true then some (PyData.eqv p q) else none
  | _, _ => none
def eqD (x y : D) (st : Store) : R D := match eqP x y st with
  | some b => .ok (.bl b) st
  | none => .bad
def neD (x y : D) (st : Store) : R D := match eqP x y st with
  | some b => .ok (.bl (!b)) st
  | none => .bad
section
variable {G : GX} {μ : List Addr} {H : Hp} {st : Store}
mutual
theorem toPw_ok {f : Nat → Option PyData} (hf : ∀ n a p, μ[n]? = some a → f n = some p → Dp G.K H (.ref a) p) : ∀ (d : D) (v : V) (p : PyData), RelD G μ H d v → toPw f d = some p → Dp G.K H v p
  | .non, _, _, r, e => by cases r; simp [toPw] at e; subst e; exact .non
  | .bl _, _, _, r, e => by cases r; simp [toPw] at e; subst e; exact .bl _
  | .int _, _, _, r, e => by cases r; simp [toPw] at e; subst e; exact .int _
  | .str _, _, _, r, e => by cases r; simp [toPw] at e; subst e; exact .str _
  | .cls _, _, _, r, e => by simp [toPw] at e
  | .ref n, _, p, r, e => by obtain ⟨a, e1, rfl⟩ := r; exact hf n a p e1 e
  | .tup ds, _, p, r, e => by
    obtain ⟨a, vs, rfl, q, rs⟩ := r
    simp only [toPw, Option.map_eq_some_iff] at e
    obtain ⟨ps, e1, rfl⟩ := e
    exact .tup (.of q) (toPws_ok hf ds vs ps rs e1)
theorem toPws_ok {f : Nat → Option PyData} (hf : ∀ n a p, μ[n]? = some a → f n = some p → Dp G.K H (.ref a) p) : ∀ (ds : List D) (vs : List V) (ps : List PyData), RelDs G μ H ds vs → toPws f ds = some ps → DpAll G.K H vs ps
  | [], _, _, r, e => by cases r; simp [toPws] at e; subst e; exact .nil
  | d :: ds, _, ps, r, e => by
    obtain ⟨v, rest, rfl, rd, rs⟩ := r
    simp only [toPws] at e
    split at e
    · rename_i p ps' e1 e2
      cases e
      exact .cons (toPw_ok hf d v p rd e1) (toPws_ok hf ds rest ps' rs e2)
    · cases e
end
theorem toP_ok (hs : HS G μ H st) : ∀ (n : Nat) (d : D) (v : V) (p : PyData), RelD G μ H d v → toP st n d = some p → Dp G.K H v p
  | 0, d, v, p, r, e => toPw_ok (fun _ _ _ _ z => by cases z) d v p r e
  | n + 1, d, v, p, r, e => by
    refine toPw_ok (fun k a q e1 e2 => ?_) d v p r e
    split at e2
    · rename_i ds e3
      obtain ⟨vs, hq, rs⟩ := hs.seq e1 e3
      simp only [Option.map_eq_some_iff] at e2
      obtain ⟨ps, e4, rfl⟩ := e2
      refine .lst hq ?_
      clear e3 hq
      induction ds generalizing vs ps with
      | nil => cases rs; simp at e4; subst e4; exact .nil
      | cons d ds ih =>
        obtain ⟨v, rest, rfl, rd, rs⟩ := rs
        rw [List.mapM_cons] at e4
        cases q1 : toP st n d with
        | none => rw [q1] at e4; cases e4
        | some p1 =>
          cases q2 : ds.mapM (toP st n) with
          | none => rw [q1, q2] at e4; cases e4
          | some ps1 =>
            rw [q1, q2] at e4
            cases e4
            exact .cons (toP_ok hs n d v p1 rd q1) (ih _ rs _ q2)
    · cases e2
theorem eqP_ok (hs : HS G μ H st) {x y : D} {v u : V} {b : Bool} (rx : RelD G μ H x v) (ry : RelD G μ H y u) (e : eqP x y st = some b) : ∃ d e, Dp G.K H v d ∧ Dp G.K H u e ∧ SeqAt.shaped d = true ∧ SeqAt.shaped e = true ∧ PyData.eqv d e = b := by
  unfold eqP at e
  split at e
  · rename_i p q e1 e2
    split at e
    · rename_i h
      cases e
      exact ⟨p, q, toP_ok hs 50 x v p rx e1, toP_ok hs 50 y u q ry e2, h.1, h.2, rfl⟩
    · cases e
  · cases e
theorem eqA : OpA G eqD (rEqD G.K) := by
  intro W σ μ H st x y v u Q hs rx ry p
  unfold eqD at p
  split at p
  · rename_i b e
    obtain ⟨d, e, h1, h2, h3, h4, h5⟩ := eqP_ok hs rx ry e
    exact ⟨d, e, h1, h2, h3, h4, by rw [h5]; exact p μ H _ .refl hs rfl⟩
  · exact p.elim
theorem neA : OpA G neD (rNeD G.K) := by
  intro W σ μ H st x y v u Q hs rx ry p
  unfold neD at p
  split at p
  · rename_i b e
    obtain ⟨d, e, h1, h2, h3, h4, h5⟩ := eqP_ok hs rx ry e
    exact ⟨d, e, h1, h2, h3, h4, by rw [h5]; exact p μ H _ .refl hs rfl⟩
  · exact p.elim
def isNonD (x : D) : Bool := match x with | .non => true | _ => false
theorem RelD.isNon {x : D} {v : V} (r : RelD G μ H x v) : decide (v = .non) = isNonD x := by
  cases x with
  | non => cases r; rfl
  | bl _ => cases r; rfl
  | int _ => cases r; rfl
  | str _ => cases r; rfl
  | tup ds => obtain ⟨a, vs, rfl, _⟩ := r; rfl
  | ref n => obtain ⟨a, _, rfl⟩ := r; rfl
  | cls x => obtain ⟨a, _, rfl⟩ := r; rfl
end
def isND (x y : D) (st : Store) : R D := match y with
  | .non => .ok (.bl (isNonD x)) st
  | _ => .bad
def notND (x y : D) (st : Store) : R D := match y with
  | .non => .ok (.bl (!isNonD x)) st
  | _ => .bad
theorem isNA {G : GX} : OpA G isND (fun x y H Q => y = .non ∧ Q (.bl (decide (x = .non))) H) := by
  intro W σ μ H st x y v u Q hs rx ry p
  unfold isND at p
  split at p
  · cases ry; exact ⟨rfl, by rw [rx.isNon]; exact p μ H _ .refl hs rfl⟩
  · exact p.elim
theorem notNA {G : GX} : OpA G notND (fun x y H Q => y = .non ∧ Q (.bl (!decide (x = .non))) H) := by
  intro W σ μ H st x y v u Q hs rx ry p
  unfold notND at p
  split at p
  · cases ry; exact ⟨rfl, by rw [rx.isNon]; exact p μ H _ .refl hs rfl⟩
  · exact p.elim
section
variable {X : Cx} {W : WX} {a b c : Expr} {fa fb fc : EF} {pos : Pos} {lv : Nat}
theorem ae_add (ha : AE X W a fa) (hb : AE X W b fb) : AE X W (.BinOp a .Add b pos) (e2 addD fa fb) := ae_op op_adds addA ha hb
theorem ae_sub (ha : AE X W a fa) (hb : AE X W b fb) : AE X W (.BinOp a .Sub b pos) (e2 subD fa fb) := ae_op op_sub subA ha hb
theorem ae_mul (ha : AE X W a fa) (hb : AE X W b fb) : AE X W (.BinOp a .Mult b pos) (e2 mulD fa fb) := ae_op op_muls mulA ha hb
theorem ae_fdiv (ha : AE X W a fa) (hb : AE X W b fb) : AE X W (.BinOp a .FloorDiv b pos) (e2 divD fa fb) := ae_op op_fdivW divA ha hb
theorem ae_mod (ha : AE X W a fa) (hb : AE X W b fb) : AE X W (.BinOp a .Mod b pos) (e2 modD fa fb) := ae_op op_mod modA ha hb
theorem ae_pow (ha : AE X W a fa) (hb : AE X W b fb) : AE X W (.BinOp a .Pow b pos) (e2 powD fa fb) := ae_op op_pow powA ha hb
theorem ae_neg (ha : AE X W a fa) : AE X W (.UnaryOp .USub a pos) (e1 negD fa) := ae_un un_neg negA ha
theorem ae_lt (ha : AE X W a fa) (hb : AE X W b fb) : AE X W (.Compare a [.Lt] [b] pos) (e2 ltD fa fb) := ae_cmp op_lt intCmpA ha hb (nomark _)
theorem ae_le (ha : AE X W a fa) (hb : AE X W b fb) : AE X W (.Compare a [.LtE] [b] pos) (e2 leD fa fb) := ae_cmp op_le intCmpA ha hb (nomark _)
theorem ae_gt (ha : AE X W a fa) (hb : AE X W b fb) : AE X W (.Compare a [.Gt] [b] pos) (e2 gtD fa fb) := ae_cmp op_gt intCmpA ha hb (nomark _)
theorem ae_ge (ha : AE X W a fa) (hb : AE X W b fb) : AE X W (.Compare a [.GtE] [b] pos) (e2 geD fa fb) := ae_cmp op_ge intCmpA ha hb (nomark _)
theorem ae_eq (cx : Ctx X W lv) (ha : AE X W a fa) (hb : AE X W b fb) : AE X W (.Compare a [.Eq] [b] pos) (e2 eqD fa fb) := ae_cmp (op_eqD cx.room.units) eqA ha hb (nomark _)
theorem ae_ne (cx : Ctx X W lv) (ha : AE X W a fa) (hb : AE X W b fb) : AE X W (.Compare a [.NotEq] [b] pos) (e2 neD fa fb) := ae_cmp (op_neD cx.room.units) neA ha hb (nomark _)
theorem ae_isN {j pos'} (ha : AE X W a fa) : AE X W (.Compare a [.Is] [.Constant .none j pos'] pos) (e2 isND fa (eC .non)) := ae_cmp op_isN isNA ha ae_non (nomark _)
theorem ae_notN {j pos'} (ha : AE X W a fa) : AE X W (.Compare a [.IsNot] [.Constant .none j pos'] pos) (e2 notND fa (eC .non)) := ae_cmp op_notN notNA ha ae_non (nomark _)
/-- a <= b < c -/
def eChain (g g' : D → D → Store → R D) (fa fb fc : EF) : EF := fun env st => (fa env st).bind fun x st1 => (fb env st1).bind fun y st2 => (g x y st2).bind fun z st3 => match z with
  | .bl true => (fc env st3).bind fun w st4 => g' y w st4
  | .bl false => .ok (.bl false) st3
  | _ => .bad
theorem chain_t {G : GX} {σ : St} {H : Hp} {Q : VK} {r r' : R2} {g g' : D → D → Store → R D} (hg : OpA G g r) (hg' : OpA G g' r') (h : tG G W (relD G) (eChain g g' fa fb fc) σ H Q) :
    tChain r r' (tG G W (relD G) fa) (tG G W (relD G) fb) (tG G W (relD G) fc) σ H Q := by
  obtain ⟨μ, env, st, hs, er, p⟩ := h
  refine ⟨μ, env, st, hs, er, Post.bind p fun x st1 μ1 H1 v _ x1 hs1 r1 p1 => ⟨μ1, env, st1, hs1, er.ext hs x1, Post.bind p1 fun y st2 μ2 H2 u _ x2 hs2 r2 p2 => ?_⟩⟩
  refine hg W σ μ2 H2 st2 x y v u _ hs2 (RelD.ext hs1 x2 x v r1) r2 ?_
  refine Post.bind p2 fun z st3 μ3 H3 w _ x3 hs3 r3 p3 => ?_
  cases z with
  | bl k =>
    cases r3
    refine ⟨k, rfl, ?_⟩
    cases k with
    | true =>
      rw [if_pos rfl]
      refine ⟨μ3, env, st3, hs3, ((er.ext hs x1).ext hs1 x2).ext hs2 x3, Post.bind p3 fun w' st4 μ4 H4 v4 _ x4 hs4 r4 p4 => ?_⟩
      exact hg' W σ μ4 H4 st4 y w' u v4 Q hs4 (RelD.ext hs2 (x3.trans x4) y u r2) r4 p4
    | false => rw [if_neg (by decide)]; exact p3 μ3 H3 _ .refl hs3 rfl
  | _ => exact p3.elim
theorem ae_chain {op op' : CmpOp} {r r' : R2} {g g' : D → D → Store → R D} (ho : OpR X (compareOp op) r) (hg : OpA (gx X) g r) (ho' : OpR X (compareOp op') r') (hg' : OpA (gx X) g' r') (ha : AE X W a fa) (hb : AE X W b fb) (hc : AE X W c fc)
    (h1 : lastMarks [op, op'] [b, c] = false := by rfl) : AE X W (.Compare a [op, op'] [b, c] pos) (eChain g g' fa fb fc) := (pe_chain ho ho' ha hb hc h1).weak fun σ H Q h => chain_t hg hg' h
/-- a value that must be a bool -/
def bB (fe : EF) : BF := fun env st => (fe env st).bind fun d st1 => match d with
  | .bl b => .ok b st1
  | _ => .bad
theorem tB_of {G : GX} {fe : EF} {σ : St} {H : Hp} {Q : Bool → Hp → Prop} (h : tG G W relB (bB fe) σ H Q) : tG G W (relD G) fe σ H (fun x H' => ∃ k, x = .bl k ∧ Q k H') := by
  obtain ⟨μ, env, st, hs, er, p⟩ := h
  refine ⟨μ, env, st, hs, er, Post.bind p fun d st1 μ1 H1 v _ x1 hs1 r1 p1 => ?_⟩
  cases d with
  | bl b => cases r1; exact ⟨b, rfl, p1 μ1 H1 b .refl hs1 rfl⟩
  | _ => exact p1.elim
theorem at_cmp {op : CmpOp} {r : R2} {g : D → D → Store → R D} (ho : OpR X (compareOp op) r) (hg : OpA (gx X) g r) (ha : AE X W a fa) (hb : AE X W b fb) (hm : behindInMarks op b = false) : AT X W (.Compare a [op] [b] pos) (bB (e2 g fa fb)) :=
  (pt_cmpR ho ha hb hm).weak fun σ H Q h => t2_of hg (tB_of h)
theorem at_chain {op op' : CmpOp} {r r' : R2} {g g' : D → D → Store → R D} (ho : OpR X (compareOp op) r) (hg : OpA (gx X) g r) (ho' : OpR X (compareOp op') r') (hg' : OpA (gx X) g' r') (ha : AE X W a fa) (hb : AE X W b fb) (hc : AE X W c fc)
    (h1 : lastMarks [op, op'] [b, c] = false := by rfl) : AT X W (.Compare a [op, op'] [b, c] pos) (bB (eChain g g' fa fb fc)) := (pt_chain ho ho' ha hb hc h1).weak fun σ H Q h => chain_t hg hg' (tB_of h)
theorem at_lt (ha : AE X W a fa) (hb : AE X W b fb) : AT X W (.Compare a [.Lt] [b] pos) (bB (e2 ltD fa fb)) := at_cmp op_lt intCmpA ha hb (nomark _)
theorem at_le (ha : AE X W a fa) (hb : AE X W b fb) : AT X W (.Compare a [.LtE] [b] pos) (bB (e2 leD fa fb)) := at_cmp op_le intCmpA ha hb (nomark _)
theorem at_gt (ha : AE X W a fa) (hb : AE X W b fb) : AT X W (.Compare a [.Gt] [b] pos) (bB (e2 gtD fa fb)) := at_cmp op_gt intCmpA ha hb (nomark _)
theorem at_ge (ha : AE X W a fa) (hb : AE X W b fb) : AT X W (.Compare a [.GtE] [b] pos) (bB (e2 geD fa fb)) := at_cmp op_ge intCmpA ha hb (nomark _)
theorem at_eq (cx : Ctx X W lv) (ha : AE X W a fa) (hb : AE X W b fb) : AT X W (.Compare a [.Eq] [b] pos) (bB (e2 eqD fa fb)) := at_cmp (op_eqD cx.room.units) eqA ha hb (nomark _)
theorem at_ne (cx : Ctx X W lv) (ha : AE X W a fa) (hb : AE X W b fb) : AT X W (.Compare a [.NotEq] [b] pos) (bB (e2 neD fa fb)) := at_cmp (op_neD cx.room.units) neA ha hb (nomark _)
theorem at_isN {j pos'} (ha : AE X W a fa) : AT X W (.Compare a [.Is] [.Constant .none j pos'] pos) (bB (e2 isND fa (eC .non))) := at_cmp op_isN isNA ha ae_non (nomark _)
theorem at_notN {j pos'} (ha : AE X W a fa) : AT X W (.Compare a [.IsNot] [.Constant .none j pos'] pos) (bB (e2 notND fa (eC .non))) := at_cmp op_notN notNA ha ae_non (nomark _)
/-- chains of ints -/
theorem ae_leLe (ha : AE X W a fa) (hb : AE X W b fb) (hc : AE X W c fc) (h1 : lastMarks [.LtE, .LtE] [b, c] = false := by rfl) : AE X W (.Compare a [.LtE, .LtE] [b, c] pos) (eChain leD leD fa fb fc) := ae_chain op_le intCmpA op_le intCmpA ha hb hc h1
theorem ae_leLt (ha : AE X W a fa) (hb : AE X W b fb) (hc : AE X W c fc) (h1 : lastMarks [.LtE, .Lt] [b, c] = false := by rfl) : AE X W (.Compare a [.LtE, .Lt] [b, c] pos) (eChain leD ltD fa fb fc) := ae_chain op_le intCmpA op_lt intCmpA ha hb hc h1
theorem ae_ltLt (ha : AE X W a fa) (hb : AE X W b fb) (hc : AE X W c fc) (h1 : lastMarks [.Lt, .Lt] [b, c] = false := by rfl) : AE X W (.Compare a [.Lt, .Lt] [b, c] pos) (eChain ltD ltD fa fb fc) := ae_chain op_lt intCmpA op_lt intCmpA ha hb hc h1
theorem at_leLe (ha : AE X W a fa) (hb : AE X W b fb) (hc : AE X W c fc) (h1 : lastMarks [.LtE, .LtE] [b, c] = false := by rfl) : AT X W (.Compare a [.LtE, .LtE] [b, c] pos) (bB (eChain leD leD fa fb fc)) := at_chain op_le intCmpA op_le intCmpA ha hb hc h1
theorem at_leLt (ha : AE X W a fa) (hb : AE X W b fb) (hc : AE X W c fc) (h1 : lastMarks [.LtE, .Lt] [b, c] = false := by rfl) : AT X W (.Compare a [.LtE, .Lt] [b, c] pos) (bB (eChain leD ltD fa fb fc)) := at_chain op_le intCmpA op_lt intCmpA ha hb hc h1
theorem at_ltLt (ha : AE X W a fa) (hb : AE X W b fb) (hc : AE X W c fc) (h1 : lastMarks [.Lt, .Lt] [b, c] = false := by rfl) : AT X W (.Compare a [.Lt, .Lt] [b, c] pos) (bB (eChain ltD ltD fa fb fc)) := at_chain op_lt intCmpA op_lt intCmpA ha hb hc h1
end
end TK

set_option Elab.async false
set_option linter.all false
set_option maxRecDepth 100000
set_option maxHeartbeats 4000000
namespace TK
open PySem PySem.Spec
open PyProof.Rows hiding St
open L2

/-! ## truth, and, or, not -/
def truD (d : D) (st : Store) : Option Bool := match d with
  | .non => some false
  | .bl b => some b
  | .int i => some (i != 0)
  | .tup ds => some (!ds.isEmpty)
  | .ref n => (seqOf (.ref n) st).map fun ds => !ds.isEmpty
  | _ => none
theorem truD_ok {G : GX} {μ : List Addr} {H : Hp} {st : Store} (hs : HS G μ H st) {d : D} {v : V} {b : Bool} (r : RelD G μ H d v) (e : truD d st = some b) : TruV G.K v H b := by
  have emp : ∀ {ds : List D} {vs : List V}, RelDs G μ H ds vs → (!ds.isEmpty) = !vs.isEmpty := fun {ds vs} rs => by
    cases ds with
    | nil => cases rs; rfl
    | cons d ds => obtain ⟨v, rest, rfl, _⟩ := rs; rfl
  cases d with
  | non => cases r; simp [truD] at e; show b = false; first | exact e | exact e.symm
  | bl k => cases r; simp [truD] at e; show b = k; first | exact e | exact e.symm
  | int i => cases r; simp only [truD, Option.some.injEq] at e; show b = (i != 0); first | exact e | exact e.symm
  | str _ => simp [truD] at e
  | cls _ => simp [truD] at e
  | tup ds => obtain ⟨a, vs, rfl, q, rs⟩ := r; simp only [truD, Option.some.injEq] at e; exact .inr (.inl ⟨vs, .of q, by rw [← e, emp rs]⟩)
  | ref n =>
    obtain ⟨a, e1, rfl⟩ := r
    simp only [truD, Option.map_eq_some_iff] at e
    obtain ⟨ds, e2, e3⟩ := e
    obtain ⟨vs, q, rs⟩ := hs.seq e1 e2
    exact .inl ⟨vs, q, by rw [← e3, emp rs]⟩
def bTru (fe : EF) : BF := fun env st => (fe env st).bind fun d st1 => match truD d st1 with
  | some b => .ok b st1
  | none => .bad
def bNot (fa : BF) : BF := fun env st => (fa env st).bind fun b st1 => .ok (!b) st1
def bAnd (fa fb : BF) : BF := fun env st => (fa env st).bind fun b st1 => if b then fb env st1 else .ok false st1
def bOr (fa fb : BF) : BF := fun env st => (fa env st).bind fun b st1 => if b then .ok true st1 else fb env st1
def eAnd (fa fb : EF) : EF := fun env st => (fa env st).bind fun d st1 => match truD d st1 with
  | some true => fb env st1
  | some false => .ok d st1
  | none => .bad
def eOr (fa fb : EF) : EF := fun env st => (fa env st).bind fun d st1 => match truD d st1 with
  | some false => fb env st1
  | some true => .ok d st1
  | none => .bad
def eNot (fa : EF) : EF := fun env st => (fa env st).bind fun d st1 => match truD d st1 with
  | some b => .ok (.bl (!b)) st1
  | none => .bad
def eIf (fc : BF) (fa fb : EF) : EF := fun env st => (fc env st).bind fun b st1 => if b then fa env st1 else fb env st1
section
variable {X : Cx} {W : WX} {a b c : Expr} {rest : List Expr} {fa fb fe : EF} {ga gb gc : BF} {pos : Pos} {lv : Nat}
/-- a comparison, a call .. as a test: its value's truth -/
theorem at_val (h : AE X W a fe) (he : ∀ whole, isTrue a X.env whole = (do let v ← whole; standAt a.pos; holding [v] (truthy v)) := by intro _; rfl) : AT X W a (bTru fe) :=
  (pt_truth h he).weak fun σ H Q ⟨μ, env, st, hs, er, p⟩ => ⟨μ, env, st, hs, er, Post.bind p fun d st1 μ1 H1 v _ x1 hs1 r1 p1 => by
    split at p1
    · rename_i k e; exact ⟨k, truD_ok hs1 r1 e, p1 μ1 H1 _ .refl hs1 rfl⟩
    · exact p1.elim⟩
theorem at_not (ha : AT X W a ga) : AT X W (.UnaryOp .Not a pos) (bNot ga) := (pt_not ha).weak fun σ H Q ⟨μ, env, st, hs, er, p⟩ => ⟨μ, env, st, hs, er, Post.bind p fun d st1 μ1 H1 v _ x1 hs1 r1 p1 => by
  have r1 : v = d := r1
  subst r1
  exact p1 μ1 H1 _ .refl hs1 rfl⟩
abbrev AW (X : Cx) (W : WX) (e : Expr) (f : BF) : Prop := PW X e (tG (gx X) W relB f)
theorem aw_and1 (ha : AT X W a ga) : AW X W (.BoolOp .And [a] pos) ga := pw_and1 ha
theorem aw_or1 (ha : AT X W a ga) : AW X W (.BoolOp .Or [a] pos) ga := pw_or1 ha
theorem aw_and (ha : AT X W a ga) (hb : AW X W (.BoolOp .And (b :: rest) pos) gb) : AW X W (.BoolOp .And (a :: b :: rest) pos) (bAnd ga gb) := (pw_and ha hb).weak fun σ H Q ⟨μ, env, st, hs, er, p⟩ => ⟨μ, env, st, hs, er, Post.bind p fun d st1 μ1 H1 v _ x1 hs1 r1 p1 => by
  have r1 : v = d := r1
  subst r1
  cases v with
  | true => rw [if_pos rfl]; exact ⟨μ1, env, st1, hs1, er.ext hs x1, p1⟩
  | false => rw [if_neg (by decide)]; exact p1 μ1 H1 _ .refl hs1 rfl⟩
theorem aw_or (ha : AT X W a ga) (hb : AW X W (.BoolOp .Or (b :: rest) pos) gb) : AW X W (.BoolOp .Or (a :: b :: rest) pos) (bOr ga gb) := (pw_or ha hb).weak fun σ H Q ⟨μ, env, st, hs, er, p⟩ => ⟨μ, env, st, hs, er, Post.bind p fun d st1 μ1 H1 v _ x1 hs1 r1 p1 => by
  have r1 : v = d := r1
  subst r1
  cases v with
  | true => rw [if_pos rfl]; exact p1 μ1 H1 _ .refl hs1 rfl
  | false => rw [if_neg (by decide)]; exact ⟨μ1, env, st1, hs1, er.ext hs x1, p1⟩⟩
theorem at_w (h : AW X W a ga) : AT X W a ga := h.pt
/-- as values -/
theorem ae_one {op} (h : AE X W a fa) : AE X W (.BoolOp op [a] pos) fa := pe_one h
theorem ae_and (ha : AE X W a fa) (hb : AE X W (.BoolOp .And (b :: rest) pos) fb) : AE X W (.BoolOp .And (a :: b :: rest) pos) (eAnd fa fb) := (pe_andT ha hb).weak fun σ H Q ⟨μ, env, st, hs, er, p⟩ => ⟨μ, env, st, hs, er, Post.bind p fun d st1 μ1 H1 v _ x1 hs1 r1 p1 => by
  split at p1
  · rename_i e; exact ⟨true, truD_ok hs1 r1 e, by rw [if_pos rfl]; exact ⟨μ1, env, st1, hs1, er.ext hs x1, p1⟩⟩
  · rename_i e; exact ⟨false, truD_ok hs1 r1 e, by rw [if_neg (by decide)]; exact p1 μ1 H1 _ .refl hs1 r1⟩
  · exact p1.elim⟩
theorem ae_or (ha : AE X W a fa) (hb : AE X W (.BoolOp .Or (b :: rest) pos) fb) : AE X W (.BoolOp .Or (a :: b :: rest) pos) (eOr fa fb) := (pe_orT ha hb).weak fun σ H Q ⟨μ, env, st, hs, er, p⟩ => ⟨μ, env, st, hs, er, Post.bind p fun d st1 μ1 H1 v _ x1 hs1 r1 p1 => by
  split at p1
  · rename_i e; exact ⟨false, truD_ok hs1 r1 e, by rw [if_neg (by decide)]; exact ⟨μ1, env, st1, hs1, er.ext hs x1, p1⟩⟩
  · rename_i e; exact ⟨true, truD_ok hs1 r1 e, by rw [if_pos rfl]; exact p1 μ1 H1 _ .refl hs1 r1⟩
  · exact p1.elim⟩
theorem ae_not (ha : AE X W a fa) : AE X W (.UnaryOp .Not a pos) (eNot fa) := (pe_notT ha).weak fun σ H Q ⟨μ, env, st, hs, er, p⟩ => ⟨μ, env, st, hs, er, Post.bind p fun d st1 μ1 H1 v _ x1 hs1 r1 p1 => by
  split at p1
  · rename_i b e; exact ⟨b, truD_ok hs1 r1 e, p1 μ1 H1 _ .refl hs1 rfl⟩
  · exact p1.elim⟩
theorem ae_if (hc : AT X W c gc) (ha : AE X W a fa) (hb : AE X W b fb) : AE X W (.IfExp c a b pos) (eIf gc fa fb) := (pe_ifExp hc ha hb).weak fun σ H Q ⟨μ, env, st, hs, er, p⟩ => ⟨μ, env, st, hs, er, Post.bind p fun d st1 μ1 H1 v _ x1 hs1 r1 p1 => by
  have r1 : v = d := r1
  subst r1
  cases v with
  | true => rw [if_pos rfl]; exact ⟨μ1, env, st1, hs1, er.ext hs x1, p1⟩
  | false => rw [if_neg (by decide)]; exact ⟨μ1, env, st1, hs1, er.ext hs x1, p1⟩⟩
end

/-! ## displays -/
def eTup (fr : LF) : EF := fun env st => (fr env st).bind fun ds st1 => if ds.length ≤ sizeLine then .ok (.tup ds) st1 else .bad
def lLst (fr : LF) : LF := fun env st => (fr env st).bind fun ds st1 => if ds.length ≤ sizeLine then .ok ds st1 else .bad
/-- a list as a value: an object of the store -/
def eLst (fl : LF) : EF := fun env st => (fl env st).bind fun ds st1 => .ok (.ref st1.length) (st1 ++ [.lst ds])
/-- a list or tuple read -/
def lRd (fe : EF) : LF := fun env st => (fe env st).bind fun d st1 => match seqOf d st1 with
  | some ds => .ok ds st1
  | none => .bad
/-- a list of the store alone -/
def lRef (fe : EF) : LF := fun env st => (fe env st).bind fun d st1 => match d with
  | .ref n => (match st1[n]? with
    | some (.lst ds) => .ok ds st1
    | _ => .bad)
  | _ => .bad
/-- a list, tracked -/
abbrev relM (G : GX) : RelT (List D) V := ⟨fun _ μ H ds v => ∃ a vs, v = .ref a ∧ H a = some (.lst vs) ∧ RelDs G μ H ds vs, fun _ _ r => r⟩
abbrev AM (X : Cx) (W : WX) (e : Expr) (f : LF) : Prop := PE X e (tG (gx X) W (relM (gx X)) f)
section
variable {X : Cx} {W : WX} {a b c e : Expr} {es : List Expr} {fa fb fe : EF} {fl fl' fr : LF} {pos : Pos} {lv : Nat}
theorem ae_tup {k} (h : AA X W es fr) : AE X W (.Tuple es k pos) (eTup fr) := (pe_tup h).weak fun σ H Q ⟨μ, env, st, hs, er, p⟩ => ⟨μ, env, st, hs, er, Post.bind p fun ds st1 μ1 H1 vs _ x1 hs1 r1 p1 => by
  split at p1
  · rename_i hz
    exact ⟨by rw [RelDs.length r1]; exact hz, fun q hq => p1 μ1 _ _ (.new hq) (hs1.new hq) ⟨q, vs, rfl, upd_same, RelDs.ext hs1 (.new hq) _ _ r1⟩⟩
  · exact p1.elim⟩
theorem al_lst (h : AA X W es fr) : AL X W (.List es pos) (lLst fr) := (pe_lst h).weak fun σ H Q ⟨μ, env, st, hs, er, p⟩ => ⟨μ, env, st, hs, er, Post.bind0 p fun ds st1 μ1 H1 vs _ x1 hs1 r1 p1 => by
  split at p1
  · rename_i hz
    refine ⟨by rw [RelDs.length r1]; exact hz, fun q hq => p1 μ1 _ _ (x1.trans (.new hq)) (hs1.new hq) ⟨q, vs, rfl, Ext.back x1 .refl (hs1.fresh hq) hq, hs1.fresh hq, upd_same, RelDs.ext hs1 (.new hq) _ _ r1⟩⟩
  · exact p1.elim⟩
theorem Ext.adopt {μ μ1 : List Addr} {H H1 : Hp} {a : Addr} (x : Ext μ H μ1 H1) (h0 : H a = none) (hn : a ∉ μ1) : Ext μ H (μ1 ++ [a]) H1 := by
  obtain ⟨ν, rfl, f, k⟩ := x
  refine ⟨ν ++ [a], by simp, fun c hc => ?_, k⟩
  rcases List.mem_append.mp hc with h | h
  · exact f c h
  · simp at h; subst h; exact ⟨h0, fun z => hn (List.mem_append_left _ z)⟩
theorem ae_ofL (h : AL X W e fl) : AE X W e (eLst fl) := h.weak fun σ H Q ⟨μ, env, st, hs, er, p⟩ => ⟨μ, env, st, hs, er, Post.bind0 p fun ds st1 μ1 H1 v _ x1 hs1 r1 p1 => by
  obtain ⟨a, vs, rfl, h0, hn, hv, rs⟩ := r1
  refine p1 (μ1 ++ [a]) H1 _ (x1.adopt h0 hn) (hs1.adopt hv hn ⟨vs, rfl, rs⟩) ⟨a, ?_, rfl⟩
  rw [← hs1.len, List.getElem?_append_right (Nat.le_refl _)]; simp⟩
theorem aq_ofE (h : AE X W e fe) : AQ X W e (lRd fe) := h.weak fun σ H Q ⟨μ, env, st, hs, er, p⟩ => ⟨μ, env, st, hs, er, Post.bind p fun d st1 μ1 H1 v _ x1 hs1 r1 p1 => by
  split at p1
  · rename_i ds e1
    refine p1 μ1 H1 v .refl hs1 ?_
    cases d with
    | tup ds' => obtain ⟨a, vs, rfl, q, rs⟩ := r1; simp [seqOf] at e1; subst e1; exact ⟨a, vs, rfl, .inr q, rs⟩
    | ref n => obtain ⟨a, e2, rfl⟩ := r1; obtain ⟨vs, q, rs⟩ := hs1.seq e2 e1; exact ⟨a, vs, rfl, .inl q, rs⟩
    | _ => simp [seqOf] at e1
  · exact p1.elim⟩
theorem aq_ofL (h : AL X W e fl) : AQ X W e fl := h.weak fun σ H Q ⟨μ, env, st, hs, er, p⟩ => ⟨μ, env, st, hs, er, by
  cases q : fl env st with
  | ok ds st1 => rw [q] at p; intro μ1 H1 v x1 hs1 r1; obtain ⟨a, vs, rfl, h0, hn, hv, rs⟩ := r1; exact p μ1 H1 _ x1 hs1 ⟨a, vs, rfl, .inl (.of hv), rs⟩
  | exc x s => rw [q] at p; exact p
  | bad => rw [q] at p; exact p⟩
theorem am_ofL (h : AL X W e fl) : AM X W e fl := h.weak fun σ H Q ⟨μ, env, st, hs, er, p⟩ => ⟨μ, env, st, hs, er, by
  cases q : fl env st with
  | ok ds st1 => rw [q] at p; intro μ1 H1 v x1 hs1 r1; obtain ⟨a, vs, rfl, h0, hn, hv, rs⟩ := r1; exact p μ1 H1 _ x1 hs1 ⟨a, vs, rfl, hv, rs⟩
  | exc x s => rw [q] at p; exact p
  | bad => rw [q] at p; exact p⟩
theorem am_ofE (h : AE X W e fe) : AM X W e (lRef fe) := h.weak fun σ H Q ⟨μ, env, st, hs, er, p⟩ => ⟨μ, env, st, hs, er, Post.bind p fun d st1 μ1 H1 v _ x1 hs1 r1 p1 => by
  cases d with
  | ref n =>
    simp only at p1
    obtain ⟨a, e1, rfl⟩ := r1
    split at p1
    · rename_i ds e2
      obtain ⟨_, hv, vs, rfl, rs⟩ := hs1.obj n a _ e1 e2
      exact p1 μ1 H1 _ .refl hs1 ⟨a, vs, rfl, hv, rs⟩
    · exact p1.elim
  | _ => exact p1.elim⟩
/-- [..] + [..] -/
def lCat (fl fl' : LF) : LF := fun env st => (fl env st).bind fun xs st1 => (fl' env st1).bind fun ys st2 => if xs.length + ys.length ≤ sizeLine then .ok (xs ++ ys) st2 else .bad

/-! ## subscripts -/
def getD (x y : D) (st : Store) : R D := match y with
  | .int i => (match x with
    | .str z => if z.length ≤ sizeLine then (match atI z.cps.toList i with
      | some c => .ok (.str ⟨#[c]⟩) st
      | none => .bad) else .bad
    | x => match seqOf x st with
      | some ds => (match atI ds i with
        | some d => .ok d st
        | none => .bad)
      | none => .bad)
  | _ => .bad
theorem RelDs.at {G : GX} {μ : List Addr} {H : Hp} {ds : List D} {vs : List V} {i : Int} {d : D} (r : RelDs G μ H ds vs) (e : atI ds i = some d) : ∃ v, atI vs i = some v ∧ RelD G μ H d v := by
  unfold atI at e ⊢
  rw [r.length]
  cases q : ixN ds.length i with
  | none => rw [q] at e; cases e
  | some j => rw [q] at e; exact r.get e
theorem getA {G : GX} : OpA G getD (rIx G.K) := by
  intro W σ μ H st x y v u Q hs rx ry p
  unfold getD at p
  split at p
  · cases ry
    split at p
    · cases rx
      split at p
      · rename_i hz
        split at p
        · rename_i c ec; exact .inr (.inr ⟨_, _, c, rfl, rfl, hz, ec, p μ H _ .refl hs rfl⟩)
        · exact p.elim
      · exact p.elim
    · split at p
      · rename_i ds eq
        split at p
        · rename_i d ed
          cases x with
          | tup ds' =>
            obtain ⟨a, vs, rfl, q, rs⟩ := rx
            simp [seqOf] at eq; subst eq
            obtain ⟨v, ev, rd⟩ := rs.at ed
            exact .inr (.inl ⟨a, vs, _, v, rfl, rfl, .of q, ev, p μ H v .refl hs rd⟩)
          | ref n =>
            obtain ⟨a, ea, rfl⟩ := rx
            obtain ⟨vs, q, rs⟩ := hs.seq ea eq
            obtain ⟨v, ev, rd⟩ := rs.at ed
            exact .inl ⟨a, vs, _, v, rfl, rfl, q, ev, p μ H v .refl hs rd⟩
          | _ => simp [seqOf] at eq
        · exact p.elim
      · exact p.elim
  · exact p.elim
theorem ae_get (ha : AE X W a fa) (hb : AE X W b fb) (hp : PlainIx b := by exact fun _ _ => rfl) : AE X W (.Subscript a b pos) (e2 getD fa fb) := (pe_ix ix_seq ha hb hp).weak fun _ _ _ h => t2_of getA h
end
end TK

set_option Elab.async false
set_option linter.all false
set_option maxRecDepth 100000
set_option maxHeartbeats 4000000
namespace TK
open PySem PySem.Spec
open PyProof.Rows hiding St
open L2

/-! ## fields -/
def eFld (cs : List Str) (f : Str) (fe : EF) : EF := fun env st => (fe env st).bind fun d st1 => match d with
  | .ref n => (match st1[n]? with
    | some (.ins c fs) => if c ∈ cs then (match fs.lookup f with
      | some d => .ok d st1
      | none => .bad) else .bad
    | _ => .bad)
  | _ => .bad
/-- what is known of a class -/
structure ClsA (G : GX) (c : Str) (fs : List Str) : Prop where
  ok : ∀ C, G.mg c = some (.ref C) → Cls G.K C ∧ ∀ f ∈ fs, NoAttr G.K C f
theorem RelF.look {G : GX} {μ : List Addr} {H : Hp} : ∀ {fs : List (Str × D)} {vs : List (Str × V)} {f : Str} {d : D}, RelF G μ H fs vs → fs.lookup f = some d → ∃ v, vs.lookup f = some v ∧ RelD G μ H d v
  | [], _, _, _, _, e => by simp at e
  | (x, d) :: fs, _, f, d', r, e => by
    obtain ⟨v, rest, rfl, rd, rs⟩ := r
    rw [List.lookup_cons] at e ⊢
    split at e
    · cases e; exact ⟨v, rfl, rd⟩
    · exact RelF.look rs e
def putFD (f : Str) (y : D) : List (Str × D) → List (Str × D)
  | [] => [(f, y)]
  | (x, d) :: fs => if x = f then (x, y) :: fs else (x, d) :: putFD f y fs
section
variable {X : Cx} {W : WX} {a b c e o : Expr} {es : List Expr} {fa fb fe fo : EF} {fl fl' fr : LF} {pos pos' : Pos} {lv : Nat}
theorem ae_fld (cs : List Str) {f : Str} (he : AE X W e fe) (hc : ∀ c ∈ cs, ∃ l, ClsA (gx X) c l ∧ f ∈ l) (hb : attributeBase e f X.env (eval e X.env) = eval e X.env := by rfl) : AE X W (.Attribute e f pos) (eFld cs f fe) :=
  (pe_fld he hb).weak fun σ H Q ⟨μ, env, st, hs, er, p⟩ => ⟨μ, env, st, hs, er, Post.bind p fun d st1 μ1 H1 v _ x1 hs1 r1 p1 => by
    cases d with
    | ref n =>
      simp only at p1
      obtain ⟨a, e1, rfl⟩ := r1
      split at p1
      · rename_i c fs e2
        split at p1
        · rename_i hcs
          split at p1
          · rename_i d e3
            obtain ⟨_, h1, C, dx, vs, rfl, hm, rf⟩ := hs1.obj n a _ e1 e2
            obtain ⟨l, k, hf⟩ := hc c hcs
            obtain ⟨k1, k2⟩ := k.ok C hm
            obtain ⟨v, e4, rd⟩ := rf.look e3
            exact ⟨a, C, dx, vs, v, rfl, h1, k1, k2 f hf, e4, p1 μ1 H1 v .refl hs1 rd⟩
          · exact p1.elim
        · exact p1.elim
      · exact p1.elim
    | _ => exact p1.elim⟩

/-! ## calls of what Python brings -/
def eB (g : List D → Store → R D) (fr : LF) : EF := fun env st => (fr env st).bind g
/-- by plain arguments -/
def CalA (G : GX) (g : List D → Store → R D) (r : List V → Hp → VK → Prop) : Prop := ∀ W σ μ H st ds vs Q, HS G μ H st → RelDs G μ H ds vs → Post G W (relD G) σ μ H (g ds st) Q → r vs H Q
theorem ae_callB {id : String} {r : List V → Hp → VK → Prop} {g : List D → Store → R D} {x : Str} {p : Pos} (hc : CallR X (.builtin id) r) (hg' : CalA (gx X) g r) (hm : X.mg x = none) (hv : bootBuiltins x = some (.builtin id)) (ha : AA X W (e :: es) fr)
    (hg : Gl X x := by rfl) (hn : x ≠ "__name__" := by decide) (hdb : (x == ("__debug__" : Str)) = false := by decide) (he : starEach (e :: es) X.env = (false, eval e X.env) :: starEach es X.env := by rfl) (hpl : (backTo pos (starEach es X.env)).any (·.1) = false := by rfl) :
    AE X W (.Call (.Name x p) (e :: es) [] pos) (eB g fr) := (pe_callB hc hg hm hv ha hn hdb he hpl).weak fun σ H Q ⟨μ, env, st, hs, er, q⟩ => ⟨μ, env, st, hs, er, Post.bind q fun ds st1 μ1 H1 vs _ x1 hs1 r1 p1 => hg' W σ μ1 H1 st1 ds vs Q hs1 r1 p1⟩
theorem ae_callTy {T : String} {r : List V → Hp → VK → Prop} {g : List D → Store → R D} {x : Str} {p : Pos} (hc : CallR X (.type T) r) (hg' : CalA (gx X) g r) (hm : X.mg x = none) (hv : bootBuiltins x = some (.type T)) (ha : AA X W (e :: es) fr)
    (hg : Gl X x := by rfl) (hn : x ≠ "__name__" := by decide) (hdb : (x == ("__debug__" : Str)) = false := by decide) (he : starEach (e :: es) X.env = (false, eval e X.env) :: starEach es X.env := by rfl) (hpl : (backTo pos (starEach es X.env)).any (·.1) = false := by rfl) :
    AE X W (.Call (.Name x p) (e :: es) [] pos) (eB g fr) := (pe_callTy hc hg hm hv ha hn hdb he hpl).weak fun σ H Q ⟨μ, env, st, hs, er, q⟩ => ⟨μ, env, st, hs, er, Post.bind q fun ds st1 μ1 H1 vs _ x1 hs1 r1 p1 => hg' W σ μ1 H1 st1 ds vs Q hs1 r1 p1⟩
/-- by one list or tuple that is read -/
def CalQ {α : Type} (G : GX) (rel' : RelT (List D) V) (rel : RelT α V) (g : List D → Store → R α) (r : List V → Hp → VK → Prop) : Prop :=
  ∀ W σ μ0 H0 μ H st ds v Q, Ext μ0 H0 μ H → HS G μ H st → rel'.r H0 μ H ds v → Post G W rel σ μ0 H0 (g ds st) Q → r [v] H Q
theorem p_callB {α : Type} {rel : RelT α V} {rel' : RelT (List D) V} {id : String} {r : List V → Hp → VK → Prop} {g : List D → Store → R α} {x : Str} {p : Pos} (hc : CallR X (.builtin id) r) (hg' : CalQ (gx X) rel' rel g r) (hm : X.mg x = none) (hv : bootBuiltins x = some (.builtin id))
    (ha : PE X e (tG (gx X) W rel' fl)) (hg : Gl X x := by rfl) (hn : x ≠ "__name__" := by decide) (hdb : (x == ("__debug__" : Str)) = false := by decide) (he : starEach [e] X.env = (false, eval e X.env) :: starEach [] X.env := by rfl) :
    PE X (.Call (.Name x p) [e] [] pos) (tG (gx X) W rel fun env st => (fl env st).bind g) := (pe_callB hc hg hm hv (pa_cons ha pa_nil he) hn hdb he rfl).weak fun σ H Q ⟨μ, env, st, hs, er, q⟩ =>
      ⟨μ, env, st, hs, er, Post.bind0 q fun ds st1 μ1 H1 v _ x1 hs1 r1 p1 => hg' W σ μ H μ1 H1 st1 ds v Q x1 hs1 r1 p1⟩
theorem p_callTy {α : Type} {rel : RelT α V} {rel' : RelT (List D) V} {T : String} {r : List V → Hp → VK → Prop} {g : List D → Store → R α} {x : Str} {p : Pos} (hc : CallR X (.type T) r) (hg' : CalQ (gx X) rel' rel g r) (hm : X.mg x = none) (hv : bootBuiltins x = some (.type T))
    (ha : PE X e (tG (gx X) W rel' fl)) (hg : Gl X x := by rfl) (hn : x ≠ "__name__" := by decide) (hdb : (x == ("__debug__" : Str)) = false := by decide) (he : starEach [e] X.env = (false, eval e X.env) :: starEach [] X.env := by rfl) :
    PE X (.Call (.Name x p) [e] [] pos) (tG (gx X) W rel fun env st => (fl env st).bind g) := (pe_callTy hc hg hm hv (pa_cons ha pa_nil he) hn hdb he rfl).weak fun σ H Q ⟨μ, env, st, hs, er, q⟩ =>
      ⟨μ, env, st, hs, er, Post.bind0 q fun ds st1 μ1 H1 v _ x1 hs1 r1 p1 => hg' W σ μ H μ1 H1 st1 ds v Q x1 hs1 r1 p1⟩
def eQ (g : List D → Store → R D) (fl : LF) : EF := fun env st => (fl env st).bind g
def lQ (g : List D → Store → R (List D)) (fl : LF) : LF := fun env st => (fl env st).bind g

/- len -/
def lenG (ds : List D) (st : Store) : R D := .ok (.int ds.length) st
theorem lenQ {G : GX} : CalQ G (relQ G) (relD G) lenG (fun xs H Q => ∃ p ys, xs = [.ref p] ∧ (SqL G.K H p ys ∨ SqT G.K H p ys) ∧ Q (.int ys.length) H) := by
  intro W σ μ0 H0 μ H st ds v Q x hs r p
  obtain ⟨a, vs, rfl, q, rs⟩ := r
  exact ⟨a, vs, rfl, q.imp id .of, by rw [rs.length]; exact p μ H _ x hs rfl⟩
theorem ae_len {p : Pos} (hm : X.mg "len" = none) (ha : AQ X W e fl) (hg : Gl X "len" := by rfl) (he : starEach [e] X.env = (false, eval e X.env) :: starEach [] X.env := by rfl) : AE X W (.Call (.Name "len" p) [e] [] pos) (eQ lenG fl) :=
  p_callB call_len_seq lenQ hm PySem.boot_len ha hg (he := he)
/- tuple(..) of a list -/
def tupG (ds : List D) (st : Store) : R D := .ok (.tup ds) st
theorem tupQ {G : GX} : CalQ G (relQ G) (relD G) tupG (fun xs H Q => ∃ p ys, xs = [.ref p] ∧ ((SqL G.K H p ys ∧ ∀ l, H l = none → Q (.ref l) (upd H l (.tup ys))) ∨ (SqT G.K H p ys ∧ Q (.ref p) H))) := by
  intro W σ μ0 H0 μ H st ds v Q x hs r p
  obtain ⟨a, vs, rfl, q, rs⟩ := r
  refine ⟨a, vs, rfl, ?_⟩
  rcases q with q | q
  · exact .inl ⟨q, fun l hl => p μ _ _ (x.trans (.new hl)) (hs.new hl) ⟨l, vs, rfl, upd_same, RelDs.ext hs (.new hl) _ _ rs⟩⟩
  · exact .inr ⟨.of q, p μ H _ x hs ⟨a, vs, rfl, q, rs⟩⟩
theorem ae_tuple {p : Pos} (hm : X.mg "tuple" = none) (ha : AQ X W e fl) (hg : Gl X "tuple" := by rfl) (he : starEach [e] X.env = (false, eval e X.env) :: starEach [] X.env := by rfl) : AE X W (.Call (.Name "tuple" p) [e] [] pos) (eQ tupG fl) :=
  p_callTy call_tuple_of tupQ hm (by decide +kernel) ha hg (he := he)
/- list(..) -/
def lstG (ds : List D) (st : Store) : R (List D) := .ok ds st
theorem lstQ {G : GX} : CalQ G (relQ G) (relL G) lstG (fun xs H Q => ∃ p ys, xs = [.ref p] ∧ (SqL G.K H p ys ∨ SqT G.K H p ys) ∧ ∀ l, H l = none → Q (.ref l) (upd H l (.lst ys))) := by
  intro W σ μ0 H0 μ H st ds v Q x hs r p
  obtain ⟨a, vs, rfl, q, rs⟩ := r
  refine ⟨a, vs, rfl, q.imp id .of, fun l hl => p μ _ _ (x.trans (.new hl)) (hs.new hl) ⟨l, vs, rfl, Ext.back x .refl (hs.fresh hl) hl, hs.fresh hl, upd_same, RelDs.ext hs (.new hl) _ _ rs⟩⟩
theorem al_list {p : Pos} (hm : X.mg "list" = none) (ha : AQ X W e fl) (hg : Gl X "list" := by rfl) (he : starEach [e] X.env = (false, eval e X.env) :: starEach [] X.env := by rfl) : AL X W (.Call (.Name "list" p) [e] [] pos) (lQ lstG fl) :=
  p_callTy call_list_of lstQ hm (by decide +kernel) ha hg (he := he)
/- all, any -/
def boolsOf : List D → Option (List Bool)
  | [] => some []
  | .bl b :: ds => (boolsOf ds).map (b :: ·)
  | _ :: _ => none
theorem boolsOf_ok {G : GX} {μ : List Addr} {H : Hp} : ∀ {ds : List D} {vs : List V} {bs : List Bool}, RelDs G μ H ds vs → boolsOf ds = some bs → vs = bs.map V.bl
  | [], _, bs, r, e => by cases r; simp [boolsOf] at e; subst e; rfl
  | d :: ds, _, bs, r, e => by
    obtain ⟨v, rest, rfl, rd, rs⟩ := r
    cases d with
    | bl b =>
      cases rd
      simp only [boolsOf, Option.map_eq_some_iff] at e
      obtain ⟨bs', e1, rfl⟩ := e
      rw [boolsOf_ok rs e1]; rfl
    | _ => simp [boolsOf] at e
@[simp] theorem boolsOf_map {α : Type} (f : α → Bool) : ∀ xs : List α, boolsOf (xs.map fun x => .bl (f x)) = some (xs.map f)
  | [] => rfl
  | x :: xs => by simp [boolsOf, boolsOf_map f xs]
def allG (ds : List D) (st : Store) : R D := match boolsOf ds with
  | some bs => .ok (.bl (bs.all id)) st
  | none => .bad
def anyG (ds : List D) (st : Store) : R D := match boolsOf ds with
  | some bs => .ok (.bl (bs.any id)) st
  | none => .bad
theorem allQ {G : GX} : CalQ G (relM G) (relD G) allG (rAll G.K) := by
  intro W σ μ0 H0 μ H st ds v Q x hs r p
  obtain ⟨a, vs, rfl, q, rs⟩ := r
  unfold allG at p
  split at p
  · rename_i bs e; exact ⟨a, bs, rfl, .of (by rw [q, boolsOf_ok rs e]), p μ H _ x hs rfl⟩
  · exact p.elim
theorem anyQ {G : GX} : CalQ G (relM G) (relD G) anyG (rAny G.K) := by
  intro W σ μ0 H0 μ H st ds v Q x hs r p
  obtain ⟨a, vs, rfl, q, rs⟩ := r
  unfold anyG at p
  split at p
  · rename_i bs e; exact ⟨a, bs, rfl, .of (by rw [q, boolsOf_ok rs e]), p μ H _ x hs rfl⟩
  · exact p.elim
theorem ae_all {p : Pos} (cx : Ctx X W lv) (hm : X.mg "all" = none) (ha : AM X W e fl) (hg : Gl X "all" := by rfl) (he : starEach [e] X.env = (false, eval e X.env) :: starEach [] X.env := by rfl) : AE X W (.Call (.Name "all" p) [e] [] pos) (eQ allG fl) :=
  p_callB (cr_all cx.calm) allQ hm (by decide +kernel) ha hg (he := he)
theorem ae_any {p : Pos} (cx : Ctx X W lv) (hm : X.mg "any" = none) (ha : AM X W e fl) (hg : Gl X "any" := by rfl) (he : starEach [e] X.env = (false, eval e X.env) :: starEach [] X.env := by rfl) : AE X W (.Call (.Name "any" p) [e] [] pos) (eQ anyG fl) :=
  p_callB (cr_any cx.calm) anyQ hm (by decide +kernel) ha hg (he := he)
/- sum, min, max, sorted: ints -/
def intsOf : List D → Option (List Int)
  | [] => some []
  | .int i :: ds => (intsOf ds).map (i :: ·)
  | _ :: _ => none
theorem intsOf_ok {G : GX} {μ : List Addr} {H : Hp} : ∀ {ds : List D} {vs : List V} {bs : List Int}, RelDs G μ H ds vs → intsOf ds = some bs → vs = bs.map V.int
  | [], _, bs, r, e => by cases r; simp [intsOf] at e; subst e; rfl
  | d :: ds, _, bs, r, e => by
    obtain ⟨v, rest, rfl, rd, rs⟩ := r
    cases d with
    | int b =>
      cases rd
      simp only [intsOf, Option.map_eq_some_iff] at e
      obtain ⟨bs', e1, rfl⟩ := e
      rw [intsOf_ok rs e1]; rfl
    | _ => simp [intsOf] at e
@[simp] theorem intsOf_map {α : Type} (f : α → Int) : ∀ xs : List α, intsOf (xs.map fun x => .int (f x)) = some (xs.map f)
  | [] => rfl
  | x :: xs => by simp [intsOf, intsOf_map f xs]
theorem intsRel {G : GX} {μ : List Addr} {H : Hp} : ∀ ns : List Int, RelDs G μ H (ns.map D.int) (ns.map V.int)
  | [] => rfl
  | n :: ns => ⟨_, _, rfl, rfl, intsRel ns⟩
def sumG (ds : List D) (st : Store) : R D := match intsOf ds with
  | some bs => .ok (.int bs.sum) st
  | none => .bad
theorem sumQ {G : GX} : CalQ G (relM G) (relD G) sumG (rSum G.K) := by
  intro W σ μ0 H0 μ H st ds v Q x hs r p
  obtain ⟨a, vs, rfl, q, rs⟩ := r
  unfold sumG at p
  split at p
  · rename_i bs e; exact ⟨a, bs, rfl, .of (by rw [q, intsOf_ok rs e]), p μ H _ x hs rfl⟩
  · exact p.elim
theorem ae_sum {p : Pos} (cx : Ctx X W lv) (hm : X.mg "sum" = none) (ha : AM X W e fl) (hg : Gl X "sum" := by rfl) (he : starEach [e] X.env = (false, eval e X.env) :: starEach [] X.env := by rfl) : AE X W (.Call (.Name "sum" p) [e] [] pos) (eQ sumG fl) :=
  p_callB (cr_sum cx.calm) sumQ hm (by decide +kernel) ha hg (he := he)
def maxI : List Int → Int
  | [] => 0
  | [x] => x
  | x :: xs => max x (maxI xs)
def minI : List Int → Int
  | [] => 0
  | [x] => x
  | x :: xs => min x (minI xs)
theorem maxI_le : ∀ (xs : List Int) (y : Int), y ∈ xs → y ≤ maxI xs
  | [], _, h => by simp at h
  | [x], y, h => by simp at h; subst h; exact Int.le_refl _
  | x :: z :: xs, y, h => by
    show y ≤ max x (maxI (z :: xs))
    rcases List.mem_cons.mp h with h | h
    · omega
    · have := maxI_le (z :: xs) y h; omega
theorem maxI_mem : ∀ (xs : List Int), xs ≠ [] → maxI xs ∈ xs
  | [], h => absurd rfl h
  | [x], _ => by simp [maxI]
  | x :: z :: xs, _ => by
    have := maxI_mem (z :: xs) (by simp)
    show max x (maxI (z :: xs)) ∈ _
    by_cases h : x ≤ maxI (z :: xs)
    · rw [Int.max_eq_right h]; exact List.mem_cons_of_mem _ this
    · rw [Int.max_eq_left (by omega)]; exact List.mem_cons_self
theorem minI_le : ∀ (xs : List Int) (y : Int), y ∈ xs → minI xs ≤ y
  | [], _, h => by simp at h
  | [x], y, h => by simp at h; subst h; exact Int.le_refl _
  | x :: z :: xs, y, h => by
    show min x (minI (z :: xs)) ≤ y
    rcases List.mem_cons.mp h with h | h
    · omega
    · have := minI_le (z :: xs) y h; omega
theorem minI_mem : ∀ (xs : List Int), xs ≠ [] → minI xs ∈ xs
  | [], h => absurd rfl h
  | [x], _ => by simp [minI]
  | x :: z :: xs, _ => by
    have := minI_mem (z :: xs) (by simp)
    show min x (minI (z :: xs)) ∈ _
    by_cases h : x ≤ minI (z :: xs)
    · rw [Int.min_eq_left h]; exact List.mem_cons_self
    · rw [Int.min_eq_right (by omega)]; exact List.mem_cons_of_mem _ this
def maxG (ds : List D) (st : Store) : R D := match intsOf ds with
  | some bs => if bs.isEmpty then .bad else .ok (.int (maxI bs)) st
  | none => .bad
def minG (ds : List D) (st : Store) : R D := match intsOf ds with
  | some bs => if bs.isEmpty then .bad else .ok (.int (minI bs)) st
  | none => .bad
theorem maxQ {G : GX} : CalQ G (relM G) (relD G) maxG (rMax G.K) := by
  intro W σ μ0 H0 μ H st ds v Q x hs r p
  obtain ⟨a, vs, rfl, q, rs⟩ := r
  unfold maxG at p
  split at p
  · rename_i bs e
    split at p
    · exact p.elim
    · rename_i hne
      have hne : bs ≠ [] := by simpa using hne
      refine ⟨a, bs, rfl, .of (by rw [q, intsOf_ok rs e]), List.length_pos_iff.mpr hne, fun m h1 h2 => ?_⟩
      have : m = maxI bs := Int.le_antisymm (maxI_le bs m h1) (h2 _ (maxI_mem bs hne))
      subst this
      exact p μ H _ x hs rfl
  · exact p.elim
theorem minQ {G : GX} : CalQ G (relM G) (relD G) minG (rMin G.K) := by
  intro W σ μ0 H0 μ H st ds v Q x hs r p
  obtain ⟨a, vs, rfl, q, rs⟩ := r
  unfold minG at p
  split at p
  · rename_i bs e
    split at p
    · exact p.elim
    · rename_i hne
      have hne : bs ≠ [] := by simpa using hne
      refine ⟨a, bs, rfl, .of (by rw [q, intsOf_ok rs e]), List.length_pos_iff.mpr hne, fun m h1 h2 => ?_⟩
      have : m = minI bs := Int.le_antisymm (h2 _ (minI_mem bs hne)) (minI_le bs m h1)
      subst this
      exact p μ H _ x hs rfl
  · exact p.elim
theorem ae_max {p : Pos} (cx : Ctx X W lv) (hm : X.mg "max" = none) (ha : AM X W e fl) (hg : Gl X "max" := by rfl) (he : starEach [e] X.env = (false, eval e X.env) :: starEach [] X.env := by rfl) : AE X W (.Call (.Name "max" p) [e] [] pos) (eQ maxG fl) :=
  p_callB (cr_max cx.calm) maxQ hm (by decide +kernel) ha hg (he := he)
theorem ae_min {p : Pos} (cx : Ctx X W lv) (hm : X.mg "min" = none) (ha : AM X W e fl) (hg : Gl X "min" := by rfl) (he : starEach [e] X.env = (false, eval e X.env) :: starEach [] X.env := by rfl) : AE X W (.Call (.Name "min" p) [e] [] pos) (eQ minG fl) :=
  p_callB (cr_min cx.calm) minQ hm (by decide +kernel) ha hg (he := he)
/- abs, max, min of two, int(..) -/
def absG (ds : List D) (st : Store) : R D := match ds with
  | [.int i] => .ok (.int (if i < 0 then -i else i)) st
  | _ => .bad
theorem absA {G : GX} : CalA G absG (fun xs H Q => ∃ i, xs = [.int i] ∧ Q (.int (if i < 0 then -i else i)) H) := by
  intro W σ μ H st ds vs Q hs rs p
  unfold absG at p
  split at p
  · obtain ⟨v, rest, rfl, rd, e0⟩ := rs; cases e0; cases rd; exact ⟨_, rfl, p μ H _ .refl hs rfl⟩
  · exact p.elim
theorem ae_abs {p : Pos} (hm : X.mg "abs" = none) (ha : AA X W [e] fr) (hg : Gl X "abs" := by rfl) (he : starEach [e] X.env = (false, eval e X.env) :: starEach [] X.env := by rfl) : AE X W (.Call (.Name "abs" p) [e] [] pos) (eB absG fr) :=
  ae_callB call_abs absA hm (by decide +kernel) ha hg (he := he) (hpl := rfl)
def max2G (ds : List D) (st : Store) : R D := match ds with
  | [.int i, .int j] => .ok (.int (if j > i then j else i)) st
  | _ => .bad
def min2G (ds : List D) (st : Store) : R D := match ds with
  | [.int i, .int j] => .ok (.int (if j < i then j else i)) st
  | _ => .bad
theorem max2A {G : GX} : CalA G max2G (fun xs H Q => ∃ i j, xs = [.int i, .int j] ∧ Q (.int (if j > i then j else i)) H) := by
  intro W σ μ H st ds vs Q hs rs p
  unfold max2G at p
  split at p
  · obtain ⟨v, rest, rfl, rd, v', rest', rfl, rd', e0⟩ := rs; cases e0; cases rd; cases rd'; exact ⟨_, _, rfl, p μ H _ .refl hs rfl⟩
  · exact p.elim
theorem min2A {G : GX} : CalA G min2G (fun xs H Q => ∃ i j, xs = [.int i, .int j] ∧ Q (.int (if j < i then j else i)) H) := by
  intro W σ μ H st ds vs Q hs rs p
  unfold min2G at p
  split at p
  · obtain ⟨v, rest, rfl, rd, v', rest', rfl, rd', e0⟩ := rs; cases e0; cases rd; cases rd'; exact ⟨_, _, rfl, p μ H _ .refl hs rfl⟩
  · exact p.elim
theorem ae_max2 {p : Pos} (cx : Ctx X W lv) (hm : X.mg "max" = none) (ha : AA X W [a, b] fr) (hg : Gl X "max" := by rfl) (he : starEach [a, b] X.env = (false, eval a X.env) :: starEach [b] X.env := by rfl) (hpl : (backTo pos (starEach [b] X.env)).any (·.1) = false := by rfl) : AE X W (.Call (.Name "max" p) [a, b] [] pos) (eB max2G fr) :=
  ae_callB (call_max2 cx.calm) max2A hm (by decide +kernel) ha hg (he := he) (hpl := hpl)
theorem ae_min2 {p : Pos} (cx : Ctx X W lv) (hm : X.mg "min" = none) (ha : AA X W [a, b] fr) (hg : Gl X "min" := by rfl) (he : starEach [a, b] X.env = (false, eval a X.env) :: starEach [b] X.env := by rfl) (hpl : (backTo pos (starEach [b] X.env)).any (·.1) = false := by rfl) : AE X W (.Call (.Name "min" p) [a, b] [] pos) (eB min2G fr) :=
  ae_callB (call_min2 cx.calm) min2A hm (by decide +kernel) ha hg (he := he) (hpl := hpl)
def intG (ds : List D) (st : Store) : R D := match ds with
  | [.int i] => .ok (.int i) st
  | [.bl k] => .ok (.int (if k then 1 else 0)) st
  | _ => .bad
theorem intA {G : GX} : CalA G intG (fun xs H Q => (∃ i, xs = [.int i] ∧ Q (.int i) H) ∨ ∃ k, xs = [.bl k] ∧ Q (.int (if k then 1 else 0)) H) := by
  intro W σ μ H st ds vs Q hs rs p
  unfold intG at p
  split at p
  · obtain ⟨v, rest, rfl, rd, e0⟩ := rs; cases e0; cases rd; exact .inl ⟨_, rfl, p μ H _ .refl hs rfl⟩
  · obtain ⟨v, rest, rfl, rd, e0⟩ := rs; cases e0; cases rd; exact .inr ⟨_, rfl, p μ H _ .refl hs rfl⟩
  · exact p.elim
theorem ae_int1 {p : Pos} (hm : X.mg "int" = none) (ha : AA X W [e] fr) (hg : Gl X "int" := by rfl) (he : starEach [e] X.env = (false, eval e X.env) :: starEach [] X.env := by rfl) : AE X W (.Call (.Name "int" p) [e] [] pos) (eB intG fr) :=
  ae_callTy call_int1 intA hm (by decide +kernel) ha hg (he := he) (hpl := rfl)

/-! ## methods -/
def isLst (d : D) (st : Store) : Bool := match d with
  | .ref n => (match st[n]? with | some (.lst _) => true | _ => false)
  | _ => false
def eM (ok : D → Store → Bool) (g : D → List D → Store → R D) (fo : EF) (fr : LF) : EF := fun env st => (fo env st).bind fun x st1 => if ok x st1 then (fr env st1).bind fun ds st2 => g x ds st2 else .bad
def MetA (G : GX) (g : D → List D → Store → R D) (r : V → List V → Hp → VK → Prop) : Prop := ∀ W σ μ H st x ds v vs Q, HS G μ H st → RelD G μ H x v → RelDs G μ H ds vs → Post G W (relD G) σ μ H (g x ds st) Q → r v vs H Q
def TyA (G : GX) (ok : D → Store → Bool) (T : String) : Prop := ∀ μ H st x v, HS G μ H st → RelD G μ H x v → ok x st = true → tyV G.K T v H
theorem tyLst {G : GX} : TyA G isLst "list" := by
  intro μ H st x v hs r e
  cases x with
  | ref n =>
    obtain ⟨a, e1, rfl⟩ := r
    simp only [isLst] at e
    split at e
    · rename_i ds e2
      obtain ⟨_, h1, vs, rfl, _⟩ := hs.obj n a _ e1 e2
      exact .inl ⟨rfl, _, .of h1⟩
    · cases e
  | _ => simp [isLst] at e
theorem ae_bm {T id : String} {name : Str} {r : V → List V → Hp → VK → Prop} {ok : D → Store → Bool} {g : D → List D → Store → R D} {apos cpos : Pos} (pa : PlainAttrs T) (slot : Slot T name id) (hty : typeOf (.builtin id) = pure (.type "method_descriptor")) (hm : MtR X id r)
    (ht : TyA (gx X) ok T) (hg : MetA (gx X) g r) (ho : AE X W o fo) (ha : AA X W (e :: es) fr)
    (hbase : attributeBase o name X.env (eval o X.env) = eval o X.env := by rfl)
    (hfew : ((backTo cpos (starEach (e :: es) X.env)).all (fun x => !x.1) && (backToKw cpos (keywordEach [] X.env)).all (fun x => x.1.isSome)
      && decide ((e :: es).length + ([] : List Keyword).length + (if ([] : List Keyword).isEmpty then 0 else 1) < 30)) = true := by rfl)
    (hline : (apos.endLine == cpos.line) = true := by rfl) (hs : starEach (e :: es) X.env = (false, eval e X.env) :: starEach es X.env := by rfl) (hplain : (backTo cpos (starEach es X.env)).any (·.1) = false := by rfl) :
    AE X W (.Call (.Attribute o name apos) (e :: es) [] cpos) (eM ok g fo fr) := (pe_bm pa slot hty hm ho ha hbase hfew hline hs hplain).weak fun σ H Q ⟨μ, env, st, hs, er, q⟩ =>
      ⟨μ, env, st, hs, er, Post.bind q fun x st1 μ1 H1 v _ x1 hs1 r1 p1 => by
        split at p1
        · rename_i hok
          exact ⟨ht μ1 H1 st1 x v hs1 r1 hok, μ1, env, st1, hs1, er.ext hs x1, Post.bind p1 fun ds st2 μ2 H2 vs _ x2 hs2 r2 p2 => hg W σ μ2 H2 st2 x ds v vs Q hs2 (RelD.ext hs1 x2 x v r1) r2 p2⟩
        · exact p1.elim⟩
theorem ae_bm0 {T id : String} {name : Str} {r : V → List V → Hp → VK → Prop} {ok : D → Store → Bool} {g : D → List D → Store → R D} {apos cpos : Pos} (pa : PlainAttrs T) (slot : Slot T name id) (hty : typeOf (.builtin id) = pure (.type "method_descriptor")) (hm : MtR X id r)
    (ht : TyA (gx X) ok T) (hg : MetA (gx X) g r) (ho : AE X W o fo)
    (hbase : attributeBase o name X.env (eval o X.env) = eval o X.env := by rfl) (hline : (apos.endLine == cpos.line) = true := by rfl) :
    AE X W (.Call (.Attribute o name apos) [] [] cpos) (eM ok g fo lNil) := (pe_bm0 pa slot hty hm ho hbase hline).weak fun σ H Q ⟨μ, env, st, hs, er, q⟩ =>
      ⟨μ, env, st, hs, er, Post.bind q fun x st1 μ1 H1 v _ x1 hs1 r1 p1 => by
        split at p1
        · rename_i hok
          exact ⟨ht μ1 H1 st1 x v hs1 r1 hok, hg W σ μ1 H1 st1 x [] v [] Q hs1 r1 rfl p1⟩
        · exact p1.elim⟩
def appendG (x : D) (ds : List D) (st : Store) : R D := match x, ds with
  | .ref n, [d] => (match st[n]? with
    | some (.lst xs) => if xs.length < sizeLine then .ok .non (st.set n (.lst (xs ++ [d]))) else .bad
    | _ => .bad)
  | _, _ => .bad
theorem appendA {G : GX} : MetA G appendG rAppend := by
  intro W σ μ H st x ds v vs Q hs rx rs p
  unfold appendG at p
  split at p
  · obtain ⟨y, rest, rfl, rd, e0⟩ := rs; cases e0
    obtain ⟨a, e1, rfl⟩ := rx
    split at p
    · rename_i xs e2
      obtain ⟨_, h1, us, rfl, ru⟩ := hs.obj _ a _ e1 e2
      split at p
      · rename_i hz
        exact ⟨a, us, y, rfl, rfl, h1, by rw [ru.length]; exact hz, p μ _ _ (.put e1) (hs.put e1 ⟨_, rfl, ru.append (.one rd)⟩) rfl⟩
      · exact p.elim
    · exact p.elim
  · exact p.elim
theorem ae_append {apos cpos : Pos} (ho : AE X W o fo) (ha : AA X W [e] fr) (hbase : attributeBase o "append" X.env (eval o X.env) = eval o X.env := by rfl)
    (hfew : ((backTo cpos (starEach [e] X.env)).all (fun x => !x.1) && (backToKw cpos (keywordEach [] X.env)).all (fun x => x.1.isSome)
      && decide (([e] : List Expr).length + ([] : List Keyword).length + (if ([] : List Keyword).isEmpty then 0 else 1) < 30)) = true := by rfl)
    (hline : (apos.endLine == cpos.line) = true := by rfl) (hs : starEach [e] X.env = (false, eval e X.env) :: starEach [] X.env := by rfl) : AE X W (.Call (.Attribute o "append" apos) [e] [] cpos) (eM isLst appendG fo fr) :=
  ae_bm PySem.F.plainAttrs_list PySem.F.slot_list_append PySem.F.type_list_append mt_append tyLst appendA ho ha hbase hfew hline hs rfl
def popG (x : D) (ds : List D) (st : Store) : R D := match x, ds with
  | .ref n, [] => (match st[n]? with
    | some (.lst xs) => (match xs[xs.length - 1]? with
      | some d => .ok d (st.set n (.lst xs.dropLast))
      | none => .bad)
    | _ => .bad)
  | _, _ => .bad
theorem RelDs.dropLast {G : GX} {μ : List Addr} {H : Hp} {ds : List D} {vs : List V} (r : RelDs G μ H ds vs) : RelDs G μ H ds.dropLast vs.dropLast := by
  rw [List.dropLast_eq_take, List.dropLast_eq_take, r.length]
  exact r.take _
theorem popA {G : GX} : MetA G popG rPop := by
  intro W σ μ H st x ds v vs Q hs rx rs p
  unfold popG at p
  split at p
  · cases rs
    obtain ⟨a, e1, rfl⟩ := rx
    split at p
    · rename_i xs e2
      obtain ⟨_, h1, us, rfl, ru⟩ := hs.obj _ a _ e1 e2
      split at p
      · rename_i d e3
        obtain ⟨y, e4, rd⟩ := ru.get e3
        refine ⟨a, us, y, rfl, rfl, h1, by rw [ru.length]; exact e4, p μ _ _ (.put e1) (hs.put e1 ⟨_, rfl, ru.dropLast⟩) (RelD.wr (hs.noTupAt e1) _ _ rd)⟩
      · exact p.elim
    · exact p.elim
  · exact p.elim
def popAtG (x : D) (ds : List D) (st : Store) : R D := match x, ds with
  | .ref n, [.int i] => (match st[n]? with
    | some (.lst xs) => if 0 ≤ i ∧ i < 2 ^ 63 then (match xs[i.toNat]? with
      | some d => .ok d (st.set n (.lst (xs.eraseIdx i.toNat)))
      | none => .bad) else .bad
    | _ => .bad)
  | _, _ => .bad
theorem RelDs.erase {G : GX} {μ : List Addr} {H : Hp} : ∀ {ds : List D} {vs : List V} (k : Nat), RelDs G μ H ds vs → RelDs G μ H (ds.eraseIdx k) (vs.eraseIdx k)
  | [], _, _, r => by cases r; rfl
  | d :: ds, _, 0, r => by obtain ⟨v, rest, rfl, rd, rs⟩ := r; exact rs
  | d :: ds, _, k + 1, r => by obtain ⟨v, rest, rfl, rd, rs⟩ := r; exact ⟨v, _, rfl, rd, RelDs.erase k rs⟩
theorem popAtA {G : GX} : MetA G popAtG rPopAt := by
  intro W σ μ H st x ds v vs Q hs rx rs p
  unfold popAtG at p
  split at p
  · rename_i i
    obtain ⟨y0, rest, rfl, rd0, e0⟩ := rs; cases e0; cases rd0
    obtain ⟨a, e1, rfl⟩ := rx
    split at p
    · rename_i xs e2
      obtain ⟨_, h1, us, rfl, ru⟩ := hs.obj _ a _ e1 e2
      split at p
      · rename_i hz
        split at p
        · rename_i d e3
          obtain ⟨y, e4, rd⟩ := ru.get e3
          have hlt := (List.getElem?_eq_some_iff.mp e4).1
          refine ⟨a, us, _, i.toNat, y, rfl, rfl, h1, by omega, hz.2, ?_, e4, p μ _ _ (.put e1) (hs.put e1 ⟨_, rfl, ru.erase _⟩) (RelD.wr (hs.noTupAt e1) _ _ rd)⟩
          unfold seqIndex?
          have h0 : ¬ i < 0 := by omega
          simp [h0]; omega
        · exact p.elim
      · exact p.elim
    · exact p.elim
  · exact p.elim
/-! ## o[i] = e -/
def sSub (fo fi fe : EF) : SF := fun env st => sOf (fe env st) env fun y st1 => sOf (fo env st1) env fun x st2 => sOf (fi env st2) env fun i st3 => match x, i with
  | .ref n, .int k => (match st3[n]? with
    | some (.lst xs) => (match ixN xs.length k with
      | some j => .next env (st3.set n (.lst (xs.set j y)))
      | none => .bad)
    | _ => .bad)
  | _, _ => .bad
theorem as_sub {i : Expr} {fi : EF} {apos : Pos} (ho : AE X W o fo) (hi : AE X W i fi) (he : AE X W e fe) (ha : ∀ v, assign (.Subscript o i apos) X.env v = (do
      let ov ← holding [v] (eval o X.env)
      let iv ← holding [v, ov] (eval i X.env)
      standAt apos
      holding [v, ov, iv] (setItem ov iv v)
      release [v, ov, iv] []) := by intro _; rfl) (hs : swapsWithSole [.Subscript o i apos] e pos.line X.env = pure false := by rfl) (hw : swappedStores [.Subscript o i apos] e X.env = pure none := by rfl)
    (h1 : (assignEach [.Subscript o i apos] X.env).map (·.2) = [assign (.Subscript o i apos) X.env] := by rfl) : AS X W (.Assign [.Subscript o i apos] e pos) (sSub fo fi fe) :=
  (ps_asg he (pg_sub ho hi set_list ha) hs hw h1).weak fun Dn σ H ⟨μ, env, st, hs, er, p⟩ => ⟨μ, env, st, hs, er, PostS.bind p hs er fun y st1 μ1 H1 v _ x1 hs1 r1 p1 =>
    ⟨μ1, env, st1, hs1, er.ext hs x1, PostS.bind p1 hs1 (er.ext hs x1) fun x st2 μ2 H2 ov _ x2 hs2 r2 p2 => ⟨μ2, env, st2, hs2, (er.ext hs x1).ext hs1 x2, PostS.bind p2 hs2 ((er.ext hs x1).ext hs1 x2) fun i st3 μ3 H3 iv _ x3 hs3 r3 p3 => by
      have r2 := RelD.ext hs2 x3 _ _ r2
      have r1 := RelD.ext hs1 (x2.trans x3) _ _ r1
      have er3 := ((er.ext hs x1).ext hs1 x2).ext hs2 x3
      split at p3
      · cases r3
        obtain ⟨a, e1, rfl⟩ := r2
        split at p3
        · rename_i xs e2
          obtain ⟨_, h1, us, rfl, ru⟩ := hs3.obj _ a _ e1 e2
          split at p3
          · rename_i j ej
            exact ⟨a, us, _, j, rfl, rfl, h1, by rw [ru.length]; exact ej, p3 μ3 _ σ (.put e1) (hs3.put e1 ⟨_, rfl, ru.set j r1⟩) (er3.wr (hs3.noTupAt e1))⟩
          · exact p3.elim
        · exact p3.elim
      · exact p3.elim⟩⟩⟩
end
end TK

set_option Elab.async false
set_option linter.all false
set_option maxRecDepth 100000
set_option maxHeartbeats 4000000
namespace TK
open PySem PySem.Spec
open PyProof.Rows hiding St
open L2

/-! ## isinstance, built-in kinds -/
def kindD (d : D) (st : Store) : Option String := match d with
  | .non => some "NoneType"
  | .bl _ => some "bool"
  | .int _ => some "int"
  | .str _ => some "str"
  | .tup _ => some "tuple"
  | .ref n => (match st[n]? with
    | some (.lst _) => some "list"
    | some (.rol _) => some "list"
    | some (.dct _) => some "dict"
    | some (.dcT _) => some "dict"
    | _ => none)
  | .cls _ => none
theorem kind_ty {G : GX} {μ : List Addr} {H : Hp} {st : Store} (hs : HS G μ H st) {d : D} {v : V} {T : String} (r : RelD G μ H d v) (e : kindD d st = some T) : TyX G.K H v (.type T) := by
  cases d with
  | non => cases r; simp [kindD] at e; subst e; exact .base .non
  | bl _ => cases r; simp [kindD] at e; subst e; exact .base (.bl _)
  | int _ => cases r; simp [kindD] at e; subst e; exact .base (.int _)
  | str _ => cases r; simp [kindD] at e; subst e; exact .base (.str _)
  | cls _ => simp [kindD] at e
  | tup ds =>
    obtain ⟨a, vs, rfl, q, _⟩ := r
    simp [kindD] at e; subst e
    exact .base (.tup q)
  | ref n =>
    obtain ⟨a, e1, rfl⟩ := r
    obtain ⟨o, ho, e2, e3, ro⟩ := hs.at e1
    simp only [kindD, e2] at e
    cases o with
    | lst ds => simp at e; subst e; obtain ⟨vs, rfl, _⟩ := ro; exact .base (.lst e3)
    | rol ds => simp at e; subst e; obtain ⟨ob, vs, rfl, _⟩ := ro; exact .base (.frz e3)
    | ins c fs => simp at e
    | dct kvs => simp at e; subst e; obtain ⟨ks, rfl, _⟩ := ro; exact .base (.dK e3)
    | dcT kvs => simp at e; subst e; obtain ⟨ks, rfl, _⟩ := ro; exact .base (.dT e3)
def subT : List String → String → Bool
  | [], _ => false
  | T :: Ts, k => (k == T || (k == "bool" && T == "int")) || subT Ts k
def kindsAll : List String := ["NoneType", "bool", "int", "str", "tuple", "list", "dict"]
/-- the types that may be asked for -/
def tysAll : List String := ["bool", "int", "str", "tuple", "list", "dict"]
theorem kit_all : ∀ k ∈ kindsAll, ∀ T ∈ tysAll, kitB k T = some (k == T || (k == "bool" && T == "int")) := by decide +kernel
theorem kitAny_all {K : PySem.W.Frag} {k : String} (hk : k ∈ kindsAll) : ∀ Ts : List String, (∀ T ∈ Ts, T ∈ tysAll) → PySem.W.kitAny K (.type k) (Ts.map Value.type) = some (subT Ts k)
  | [], _ => rfl
  | T :: Ts, h => by
    have h1 := kit_ty (K := K) (kit_all k hk T (h T (by simp)))
    have h2 := kitAny_all (K := K) hk Ts fun T hT => h T (by simp [hT])
    refine kitAny_cons h1 (fun e => ?_) fun e => ?_
    · rw [h2]; simp [subT, e]
    · simp only [subT, e, Bool.true_or]
theorem kind_mem {d : D} {st : Store} {k : String} (e : kindD d st = some k) : k ∈ kindsAll := by
  cases d with
  | non => simp [kindD] at e; subst e; decide
  | bl _ => simp [kindD] at e; subst e; decide
  | int _ => simp [kindD] at e; subst e; decide
  | str _ => simp [kindD] at e; subst e; decide
  | tup _ => simp [kindD] at e; subst e; decide
  | cls _ => simp [kindD] at e
  | ref n =>
    simp only [kindD] at e
    cases q : st[n]? with
    | none => rw [q] at e; cases e
    | some o =>
      rw [q] at e
      cases o with
      | lst _ => cases e; decide
      | rol _ => cases e; decide
      | dct _ => cases e; decide
      | dcT _ => cases e; decide
      | ins _ _ => cases e
/-- isinstance(x, T) or isinstance(x, (T, ..)); an instance of a class of the text is of none of these -/
def eIsi (Ts : List String) (fe : EF) : EF := fun env st => (fe env st).bind fun d st1 => match kindD d st1 with
  | some k => .ok (.bl (subT Ts k)) st1
  | none => .bad
section
variable {X : Cx} {W : WX} {a b c e o : Expr} {es : List Expr} {fa fb fe fo : EF} {fl fl' fr : LF} {pos pos' : Pos} {lv : Nat}
theorem ae_isi {p p2 : Pos} {x : Str} (T : String) (hm : X.mg "isinstance" = none) (ha : AE X W e fe) (hg : Gl X "isinstance" := by rfl) (hx : Gl X x := by rfl) (hmx : X.mg x = none) (hv : bootBuiltins x = some (.type T) := by decide +kernel) (hT : T ∈ tysAll := by decide)
    (hn : x ≠ "__name__" := by decide) (hd : (x == ("__debug__" : Str)) = false := by decide)
    (he : starEach [e, .Name x p2] X.env = (false, eval e X.env) :: starEach [.Name x p2] X.env := by rfl) (he2 : starEach [.Name x p2] X.env = (false, eval (.Name x p2) X.env) :: starEach [] X.env := by rfl) (hpl : (backTo pos (starEach [.Name x p2] X.env)).any (·.1) = false := by rfl) :
    AE X W (.Call (.Name "isinstance" p) [e, .Name x p2] [] pos) (eIsi [T] fe) :=
  (pe_callB call_isi hg hm (by decide +kernel) (pa_cons ha (pa_cons (pe_bltn (v := .ty T) hx hmx hv (by rfl) hn hd) pa_nil he2) he) (he := he) (hpl := hpl)).weak fun σ H Q ⟨μ, env, st, hs, er, q⟩ =>
    ⟨μ, env, st, hs, er, Post.bind q fun d st1 μ1 H1 v _ x1 hs1 r1 p1 => by
      split at p1
      · rename_i k ek
        have hk := kitAny_all (K := X.K) (kind_mem ek) [T] fun T' hT' => by simp at hT'; subst hT'; exact hT
        refine ⟨v, .ty T, _, _, _, rfl, .ty T, kind_ty hs1 r1 ek, ?_, p1 μ1 H1 _ .refl hs1 rfl⟩
        simp only [subT, Bool.or_false]
        exact kit_ty (kit_all k (kind_mem ek) T hT)
      · exact p1.elim⟩
theorem ae_isi2 {p p2 p3 p4 : Pos} {kk : Nat} {x y : Str} (T U : String) (hm : X.mg "isinstance" = none) (ha : AE X W e fe) (hg : Gl X "isinstance" := by rfl) (hx : Gl X x := by rfl) (hy : Gl X y := by rfl) (hmx : X.mg x = none) (hmy : X.mg y = none)
    (hv : bootBuiltins x = some (.type T) := by decide +kernel) (hw : bootBuiltins y = some (.type U) := by decide +kernel) (hT : T ∈ tysAll := by decide) (hU : U ∈ tysAll := by decide)
    (hn : x ≠ "__name__" := by decide) (hd : (x == ("__debug__" : Str)) = false := by decide) (hn' : y ≠ "__name__" := by decide) (hd' : (y == ("__debug__" : Str)) = false := by decide)
    (he : starEach [e, .Tuple [.Name x p2, .Name y p3] kk p4] X.env = (false, eval e X.env) :: starEach [.Tuple [.Name x p2, .Name y p3] kk p4] X.env := by rfl)
    (he2 : starEach [.Tuple [.Name x p2, .Name y p3] kk p4] X.env = (false, eval (.Tuple [.Name x p2, .Name y p3] kk p4) X.env) :: starEach [] X.env := by rfl)
    (h3 : starEach [.Name x p2, .Name y p3] X.env = (false, eval (.Name x p2) X.env) :: starEach [.Name y p3] X.env := by rfl) (h4 : starEach [.Name y p3] X.env = (false, eval (.Name y p3) X.env) :: starEach [] X.env := by rfl)
    (hpl : (backTo pos (starEach [.Tuple [.Name x p2, .Name y p3] kk p4] X.env)).any (·.1) = false := by rfl) :
    AE X W (.Call (.Name "isinstance" p) [e, .Tuple [.Name x p2, .Name y p3] kk p4] [] pos) (eIsi [T, U] fe) :=
  (pe_callB call_isiT hg hm (by decide +kernel) (pa_cons ha (pa_cons (pe_tup (pa_cons (pe_bltn (v := .ty T) hx hmx hv (by rfl) hn hd) (pa_cons (pe_bltn (v := .ty U) hy hmy hw (by rfl) hn' hd') pa_nil h4) h3)) pa_nil he2) he) (he := he) (hpl := hpl)).weak fun σ H Q ⟨μ, env, st, hs, er, q⟩ =>
    ⟨μ, env, st, hs, er, Post.bind q fun d st1 μ1 H1 v _ x1 hs1 r1 p1 => by
      refine ⟨by show 2 ≤ sizeLine; rw [sizeLine_eq]; decide, fun tp htp => ?_⟩
      split at p1
      · rename_i k ek
        have r1 := RelD.ext hs1 (.new (o := .tup [.ty T, .ty U]) htp) _ _ r1
        have hs2 := hs1.new (o := .tup [.ty T, .ty U]) htp
        have hk := kitAny_all (K := X.K) (kind_mem ek) [T, U] fun T' hT' => by
          simp at hT'
          rcases hT' with rfl | rfl
          · exact hT
          · exact hU
        exact ⟨v, tp, [.ty T, .ty U], _, _, _, rfl, upd_same, .cons (.ty T) (.cons (.ty U) .nil), kind_ty hs2 r1 ek, hk, p1 μ1 _ _ (.new htp) hs2 rfl⟩
      · exact p1.elim⟩

/-! ## a walk over a tuple or a list of the store -/
def iSeqF (fe : EF) : IF := fun env st => (fe env st).bind fun d st1 => match d with
  | .tup ds => .ok (ds, []) st1
  | .ref n => (match seqOf (.ref n) st1 with
    | some ds => .ok (ds, [(n, ds)]) st1
    | none => .bad)
  | _ => .bad
theorem pi_seq {tg l : Expr} {tl : TE} (hl : PE X l tl) : PI X tg l (fun σ H R => tl σ H fun x H1 => (∃ a, x = .ref a ∧ (∃ xs, SqL X.K H1 a xs) ∧ R (Itl X.K a) H1) ∨ (∃ a, x = .ref a ∧ (∃ xs, SqT X.K H1 a xs) ∧ R (Itt X.K a) H1)) := by
  refine ⟨fun pins s σ H R I h => ?_⟩
  refine thn (hl.run pins s σ H _ I h) fun v s1 ⟨x, H1, I1, r1, q1⟩ => ?_
  rcases q1 with ⟨a, e, ⟨xs, hq⟩, q⟩ | ⟨a, e, ⟨xs, hq⟩, q⟩
  · subst e
    cases r1
    obtain ⟨its, rv, p, hz⟩ := I1.list hq
    refine wpAny_pyIter_list p.isList ?_
    refine ⟨s1.heap.objs.size, [s1.heap.objs.size], _, _, H1, rfl, I1.kept (t' := s1.toks) fun b o e => Heap.get?_push_of_some _ e, turn_list a _, ⟨_, Heap.get?_push_size _ rfl, rfl, rfl⟩, fun b hb => ?_, q⟩
    have e : b = s1.heap.objs.size := by simpa using hb
    subst e
    exact I1.fpOk (Nat.le_refl _) (I1.hok.fresh (Nat.le_refl _))
  · subst e
    cases r1
    obtain ⟨its, rv, p, hz⟩ := I1.tuple hq
    refine wpAny_pyIter_tuple (show s1.heap.IsTuple a its.toArray from p) ?_
    refine ⟨s1.heap.objs.size, [s1.heap.objs.size], _, _, H1, rfl, I1.kept (t' := s1.toks) fun b o e => Heap.get?_push_of_some _ e, turn_tuple a _, ⟨_, Heap.get?_push_size _ rfl, rfl, rfl⟩, fun b hb => ?_, q⟩
    have e : b = s1.heap.objs.size := by simpa using hb
    subst e
    exact I1.fpOk (Nat.le_refl _) (I1.hok.fresh (Nat.le_refl _))
theorem ai_seq {tg : Expr} (he : AE X W e fe) : AI X W tg e (iSeqF fe) := (pi_seq he).weak fun σ H Q ⟨μ, env, st, hs, er, p⟩ =>
  ⟨μ, env, st, hs, er, Post.bind p fun d st1 μ1 H1 v _ x1 hs1 r1 p1 => by
    cases d with
    | tup ds => obtain ⟨a, vs, e1, q, rs⟩ := r1; exact .inr ⟨a, e1, ⟨vs, .of q⟩, p1 μ1 H1 _ .refl hs1 (.tup hs1 (.of q) rs)⟩
    | ref n =>
      obtain ⟨a, e1, ev⟩ := r1
      simp only at p1
      split at p1
      · rename_i ds q
        obtain ⟨vs, q1, rs⟩ := hs1.seq e1 q
        exact .inl ⟨a, ev, ⟨vs, q1⟩, p1 μ1 H1 _ .refl hs1 (.ref e1)⟩
      · exact p1.elim
    | _ => exact p1.elim⟩

/-! ## a new list that a call gives, taken out of the store -/
open Classical in
noncomputable def lDrop (fe : EF) : LF := fun env st => match fe env st with
  | .ok (.ref k) st' => if Trim st st' ∧ st.length ≤ k then (match st'[k]? with
      | some (.lst ds) => if closeds st.length ds then .ok ds (st'.take st.length) else .bad
      | _ => .bad) else .bad
  | .exc x st' => .exc x st'
  | _ => .bad
theorem al_drop (h : AE X W e fe) : AL X W e (lDrop fe) := h.weak fun σ H Q ⟨μ, env, st, hs, er, p⟩ => by
  refine ⟨μ, env, st, hs, er, ?_⟩
  unfold lDrop at p
  cases q : fe env st with
  | bad => rw [q] at p; exact p
  | exc x s => rw [q] at p; exact p
  | ok d st' =>
    rw [q] at p
    intro μ1 H1 v x1 hs1 r1
    cases d with
    | ref k =>
      simp only at p
      split at p
      · rename_i h
        obtain ⟨t, hk⟩ := h
        split at p
        · rename_i ds e1
          split at p
          · rename_i c
            obtain ⟨a, e2, rfl⟩ := r1
            obtain ⟨_, h1, vs, rfl, rs⟩ := hs1.obj _ a _ e2 e1
            have hc := hs.cut x1 hs1 t
            obtain ⟨ν, rfl, f, kk⟩ := x1
            rw [List.getElem?_append_right (by rw [hs.len]; exact hk)] at e2
            obtain ⟨f1, f2⟩ := f a (List.mem_of_getElem? e2)
            refine p μ H1 _ ⟨[], by simp, by simp, kk⟩ hc ⟨a, vs, rfl, f1, f2, h1, RelDs.cut ds vs (by rw [hs.len]; exact c) rs⟩
          · exact p.elim
        · exact p.elim
      · exact p.elim
    | _ => exact p.elim

/-! ## name = [..] on one line -/
theorem as_setLc {elt tg iter : Expr} {ifs : List Expr} {scope : Scope} {spos py : Pos} {y : Str} {fi : IF} {t : Tgt} {fc : BF} {f1 : EF} (c : Ctx X W lv) (i : Nat) (hi : AI X W tg iter fi) (own : List (Str × Nat)) (ok : BlkOk X.N X.env.scope scope own)
    (hg : ∀ s H C cl fp, AG (bX X scope s H C cl fp) tg t) (hc : ∀ s H C cl fp, ATs (bX X scope s H C cl fp) W0 ifs fc) (he : ∀ s H C cl fp, AE (bX X scope s H C cl fp) W0 elt f1)
    (hsw : swapsWith (.ListComp elt [⟨tg, iter, ifs, 0⟩] scope pos) (some (.Name y py)) spos.line X.env = pure true) (hy : X.N[i]? = some y := by rfl) (hyl : X.env.scope.names.lookup y = some .local := by rfl)
    (hv : ∀ i ∈ slotsT t, i ∈ own.map (·.2) := by decide) (hs : ∀ x, foldedSetIterable iter X.env x = pure x := by intro _; rfl) :
    AS X W (.Assign [.Name y py] (.ListComp elt [⟨tg, iter, ifs, 0⟩] scope pos) spos) (sSet i (eLst (compF (own.map (·.2)) fi t fc f1))) :=
  (ps_setLc (g := gT X.K t) (tt := tG (gx X) W0 relB fc) (te := tG (gx X) W0 (relD (gx X)) f1) c.calm c.nd hy hyl hsw hi ok hg hc he hs).weak fun Dn σ H ⟨μ, env, st, hst, er, p⟩ => by
    unfold tAsg gName
    refine comp_t hv ⟨μ, env, st, hst, er, ?_⟩
    unfold sSet eLst at p
    cases q : compF (own.map (·.2)) fi t fc f1 env st with
    | bad => rw [q] at p; exact p
    | exc x s => rw [q] at p; exact fun μ' H' C od x2 hs2 rx => p μ' H' σ C od x2 hs2 (er.ext hst x2) rx
    | ok ds st1 =>
      rw [q] at p
      intro μ1 H1 v x1 hs1 r1
      obtain ⟨a, vs, rfl, h0, hn, hv, rs⟩ := r1
      have rr : RelD (gx X) (μ1 ++ [a]) H1 (.ref st1.length) (.ref a) := ⟨a, by rw [← hs1.len, List.getElem?_append_right (Nat.le_refl _)]; simp, rfl⟩
      exact p (μ1 ++ [a]) H1 _ (x1.adopt h0 hn) (hs1.adopt hv hn ⟨vs, rfl, rs⟩) ((er.ext hst (x1.adopt h0 hn)).set rr i)

/-! ## sorted, of ints -/
def insI (x : Int) : List Int → List Int
  | [] => [x]
  | y :: ys => if x ≤ y then x :: y :: ys else y :: insI x ys
def sortI : List Int → List Int
  | [] => []
  | x :: xs => insI x (sortI xs)
theorem insI_perm (x : Int) : ∀ ys : List Int, (insI x ys).Perm (x :: ys)
  | [] => .refl _
  | y :: ys => by
    unfold insI
    split
    · exact .refl _
    · exact ((insI_perm x ys).cons y).trans (.swap x y ys)
theorem sortI_perm : ∀ xs : List Int, (sortI xs).Perm xs
  | [] => .refl _
  | x :: xs => (insI_perm x _).trans ((sortI_perm xs).cons x)
theorem insI_sorted (x : Int) : ∀ {ys : List Int}, ys.Pairwise (· ≤ ·) → (insI x ys).Pairwise (· ≤ ·)
  | [], _ => by simp [insI]
  | y :: ys, h => by
    unfold insI
    have h2 := List.pairwise_cons.mp h
    split
    · rename_i hxy
      refine List.pairwise_cons.mpr ⟨fun z hz => ?_, h⟩
      rcases List.mem_cons.mp hz with rfl | hz
      · exact hxy
      · exact Int.le_trans hxy (h2.1 z hz)
    · rename_i hxy
      refine List.pairwise_cons.mpr ⟨fun z hz => ?_, insI_sorted x h2.2⟩
      rcases List.mem_cons.mp ((insI_perm x ys).mem_iff.mp hz) with rfl | hz
      · omega
      · exact h2.1 z hz
theorem sortI_sorted : ∀ xs : List Int, (sortI xs).Pairwise (· ≤ ·)
  | [] => .nil
  | x :: xs => insI_sorted x (sortI_sorted xs)
theorem sorted_eq {xs ys : List Int} (p : xs.Perm ys) (h1 : xs.Pairwise (· ≤ ·)) (h2 : ys.Pairwise (· ≤ ·)) : xs = ys := p.eq_of_pairwise (fun a b _ _ h h' => Int.le_antisymm h h') h1 h2
def sortG (ds : List D) (st : Store) : R (List D) := match intsOf ds with
  | some ns => .ok ((sortI ns).map D.int) st
  | none => .bad
theorem sortQ {G : GX} : CalQ G (relM G) (relL G) sortG (rSortedI G.K) := by
  intro W σ μ0 H0 μ H st ds v Q x hs r p
  obtain ⟨a, vs, rfl, q, rs⟩ := r
  unfold sortG at p
  split at p
  · rename_i ns e
    refine ⟨a, ns, rfl, .of (by rw [q, intsOf_ok rs e]), fun ns' l pm so hl => ?_⟩
    have : ns' = sortI ns := sorted_eq (pm.trans (sortI_perm ns).symm) so (sortI_sorted ns)
    subst this
    exact p μ _ _ (x.trans (.new hl)) (hs.new hl) ⟨l, _, rfl, Ext.back x .refl (hs.fresh hl) hl, hs.fresh hl, upd_same, intsRel _⟩
  · exact p.elim
theorem al_sorted {p : Pos} (hm : X.mg "sorted" = none) (ha : AM X W e fl) (hg : Gl X "sorted" := by rfl) (he : starEach [e] X.env = (false, eval e X.env) :: starEach [] X.env := by rfl) : AL X W (.Call (.Name "sorted" p) [e] [] pos) (lQ sortG fl) :=
  p_callB cr_sortedI sortQ hm (by decide +kernel) ha hg (he := he)

/-! ## xs.extend([..]) -/
def extendF (fo : EF) (fl : LF) : EF := fun env st => (fo env st).bind fun x st1 => if isLst x st1 then (fl env st1).bind fun ys st2 => match x with
  | .ref n => (match st2[n]? with
    | some (.lst xs) => if xs.length + ys.length ≤ sizeLine then .ok .non (st2.set n (.lst (xs ++ ys))) else .bad
    | _ => .bad)
  | _ => .bad else .bad
theorem ae_extend {apos cpos : Pos} (ho : AE X W o fo) (ha : AM X W e fl) (hbase : attributeBase o "extend" X.env (eval o X.env) = eval o X.env := by rfl)
    (hfew : ((backTo cpos (starEach [e] X.env)).all (fun x => !x.1) && (backToKw cpos (keywordEach [] X.env)).all (fun x => x.1.isSome)
      && decide (([e] : List Expr).length + ([] : List Keyword).length + (if ([] : List Keyword).isEmpty then 0 else 1) < 30)) = true := by rfl)
    (hline : (apos.endLine == cpos.line) = true := by rfl) (hs : starEach [e] X.env = (false, eval e X.env) :: starEach [] X.env := by rfl) : AE X W (.Call (.Attribute o "extend" apos) [e] [] cpos) (extendF fo fl) :=
  (pe_bm PySem.F.plainAttrs_list PySem.F.slot_list_extend PySem.F.type_list_extend mt_extend ho (pa_cons ha pa_nil hs) hbase hfew hline hs rfl).weak fun σ H Q ⟨μ, env, st, hst, er, q⟩ =>
      ⟨μ, env, st, hst, er, Post.bind q fun x st1 μ1 H1 v _ x1 hs1 r1 p1 => by
        split at p1
        · rename_i hok
          refine ⟨tyLst μ1 H1 st1 x v hs1 r1 hok, μ1, env, st1, hs1, er.ext hst x1, Post.bind p1 fun ys st2 μ2 H2 u _ x2 hs2 r2 p2 => ?_⟩
          have r1 := RelD.ext hs1 x2 _ _ r1
          obtain ⟨b, us, rfl, hb, ru⟩ := r2
          split at p2
          · obtain ⟨a, e1, rfl⟩ := r1
            split at p2
            · rename_i xs e2
              obtain ⟨_, h1, vs, rfl, rv⟩ := hs2.obj _ a _ e1 e2
              split at p2
              · rename_i hz
                exact ⟨a, b, vs, us, rfl, rfl, h1, hb, by rw [rv.length, ru.length]; exact hz, p2 μ2 _ _ (.put e1) (hs2.put e1 ⟨_, rfl, rv.append ru⟩) rfl⟩
              · exact p2.elim
            · exact p2.elim
          · exact p2.elim
        · exact p1.elim⟩
/-- [..] + xs -/
theorem al_cat (ha : AL X W a fl) (hb : AM X W b fl') : AL X W (.BinOp a .Add b pos) (lCat fl fl') := (pe_op op_cat ha hb).weak fun σ H Q ⟨μ, env, st, hs, er, p⟩ =>
  ⟨μ, env, st, hs, er, Post.bind0 p fun xs st1 μ1 H1 v _ x1 hs1 r1 p1 => ⟨μ1, env, st1, hs1, er.ext hs x1, by
    cases q : fl' env st1 with
    | bad => rw [q] at p1; exact p1
    | exc x s => rw [q] at p1; exact (Post.later (rel := relL (gx X)) (r := .exc x s) (Q := Q) p1 x1)
    | ok ys st2 =>
      rw [q, R.bind_ok] at p1
      intro μ2 H2 u x2 hs2 r2
      obtain ⟨a, vs, rfl, h0, hn, ha, rv⟩ := r1
      obtain ⟨b, us, rfl, hb, ru⟩ := r2
      split at p1
      · rename_i hz
        exact ⟨a, b, vs, us, rfl, rfl, x2.lst hn ha, hb, by rw [rv.length, ru.length]; exact hz, fun l hl => p1 μ2 _ _ ((x1.trans x2).trans (.new hl)) (hs2.new hl)
          ⟨l, vs ++ us, rfl, Ext.back (x1.trans x2) .refl (hs2.fresh hl) hl, hs2.fresh hl, upd_same, RelDs.ext hs2 (.new hl) _ _ ((RelDs.ext hs1 x2 _ _ rv).append ru)⟩⟩
      · exact p1.elim⟩⟩
/-- xs + [..] -/
def lCatE (fa : EF) (fl : LF) : LF := fun env st => (fa env st).bind fun x st1 => (fl env st1).bind fun ys st2 => match x with
  | .ref n => (match st2[n]? with
    | some (.lst xs) => if xs.length + ys.length ≤ sizeLine then .ok (xs ++ ys) st2 else .bad
    | _ => .bad)
  | _ => .bad
theorem al_catE (ha : AE X W a fa) (hb : AM X W b fl') : AL X W (.BinOp a .Add b pos) (lCatE fa fl') := (pe_op op_cat ha hb).weak fun σ H Q ⟨μ, env, st, hs, er, p⟩ =>
  ⟨μ, env, st, hs, er, Post.bind0 p fun x st1 μ1 H1 v _ x1 hs1 r1 p1 => ⟨μ1, env, st1, hs1, er.ext hs x1, by
    cases q : fl' env st1 with
    | bad => rw [q] at p1; exact p1
    | exc x s => rw [q] at p1; exact (Post.later (rel := relL (gx X)) (r := .exc x s) (Q := Q) p1 x1)
    | ok ys st2 =>
      rw [q, R.bind_ok] at p1
      intro μ2 H2 u x2 hs2 r2
      have r1 := RelD.ext hs1 x2 _ _ r1
      obtain ⟨b, us, rfl, hb, ru⟩ := r2
      split at p1
      · obtain ⟨a, e1, rfl⟩ := r1
        split at p1
        · rename_i xs e2
          obtain ⟨_, h1, vs, rfl, rv⟩ := hs2.obj _ a _ e1 e2
          split at p1
          · rename_i hz
            exact ⟨a, b, vs, us, rfl, rfl, h1, hb, by rw [rv.length, ru.length]; exact hz, fun l hl => p1 μ2 _ _ ((x1.trans x2).trans (.new hl)) (hs2.new hl)
              ⟨l, vs ++ us, rfl, Ext.back (x1.trans x2) .refl (hs2.fresh hl) hl, hs2.fresh hl, upd_same, RelDs.ext hs2 (.new hl) _ _ (rv.append ru)⟩⟩
          · exact p1.elim
        · exact p1.elim
      · exact p1.elim⟩⟩
end
end TK

set_option Elab.async false
set_option linter.all false
set_option maxRecDepth 100000
set_option maxHeartbeats 4000000
namespace TK
open PySem PySem.Spec
open PyProof.Rows hiding St
open L2

/-- a def of the text stands behind its name -/
def FunF (G : GX) (x : Str) (st : Stmt) : Prop := ∃ f fd, Fun G.K x x st f fd ∧ G.mg x = some (.ref f)
def ConI (G : GX) (x : Str) (i : Int) : Prop := ∃ t, G.mg x = some (.int i t)
def ConS (G : GX) (x : Str) (z : Str) : Prop := ∃ t, G.mg x = some (.str z t)
section
variable {X : Cx} {W : WX} {a b c e o : Expr} {es : List Expr} {fa fb fe fo : EF} {fl fl' fr : LF} {pos pos' : Pos} {lv : Nat}
theorem ae_conI {x : Str} {i : Int} (h : ConI (gx X) x i) (hg : Gl X x := by rfl) (hd : (x == ("__debug__" : Str)) = false := by decide) : AE X W (.Name x pos) (eC (.int i)) := let ⟨_, hm⟩ := h; ae_globI hg hm hd
theorem ae_conS {x : Str} {z : Str} (h : ConS (gx X) x z) (hg : Gl X x := by rfl) (hd : (x == ("__debug__" : Str)) = false := by decide) : AE X W (.Name x pos) (eC (.str z)) := let ⟨_, hm⟩ := h; ae_globS hg hm hd

/-! ## slices -/
abbrev OF := AEnv → Store → R (Option Int)
abbrev relO : RelT (Option Int) (Option Int) := ⟨fun _ _ _ a b => b = a, fun _ _ r => r⟩
abbrev AO' (X : Cx) (W : WX) (oe : Option Expr) (f : OF) : Prop := PO X oe (tG (gx X) W relO f)
def oNone : OF := fun _ st => .ok none st
def oSome (fe : EF) : OF := fun env st => (fe env st).bind fun d st1 => match d with
  | .int i => .ok (some i) st1
  | _ => .bad
theorem _root_.L2.PO.weak {X : Cx} {oe : Option Expr} {t t' : TO} (h : PO X oe t) (k : ∀ σ H Q, t' σ H Q → t σ H Q) : PO X oe t' := ⟨fun pins s σ H Q I q => h.run pins s σ H Q I (k _ _ _ q)⟩
theorem ao_none : AO' X W none oNone := po_none.weak fun σ H Q ⟨μ, env, st, hs, er, p⟩ => p μ H _ .refl hs rfl
theorem ao_some (h : AE X W e fe) : AO' X W (some e) (oSome fe) := (po_some h).weak fun σ H Q ⟨μ, env, st, hs, er, p⟩ => ⟨μ, env, st, hs, er, Post.bind p fun d st1 μ1 H1 v _ x1 hs1 r1 p1 => by
  cases d with
  | int i => cases r1; exact ⟨i, rfl, p1 μ1 H1 _ .refl hs1 rfl⟩
  | _ => exact p1.elim⟩
def cutD (xs : List D) (lo hi : Option Int) : List D := (xs.drop (HT.sIx xs.length 0 lo)).take (HT.sIx xs.length xs.length hi - HT.sIx xs.length 0 lo)
theorem RelDs.cutV {G : GX} {μ : List Addr} {H : Hp} {ds : List D} {vs : List V} (r : RelDs G μ H ds vs) (lo hi : Option Int) : RelDs G μ H (cutD ds lo hi) (cutV vs lo hi) := by
  unfold cutD L2.cutV
  rw [r.length]
  exact (r.drop _).take _
theorem cutD_len (xs : List D) (lo hi : Option Int) : (cutD xs lo hi).length ≤ xs.length := by
  unfold cutD
  rw [List.length_take, List.length_drop]
  omega
/-- t[lo:hi] of a tuple, of a text -/
def eSl (fe : EF) (fl fh : OF) : EF := fun env st => (fe env st).bind fun x st1 => (fl env st1).bind fun lo st2 => (fh env st2).bind fun hi st3 => match x with
  | .tup ds => .ok (.tup (cutD ds lo hi)) st3
  | _ => .bad
theorem cutV_whole {xs : List V} {lo hi : Option Int} (h : HT.sIx xs.length 0 lo = 0 ∧ HT.sIx xs.length xs.length hi = xs.length) : cutV xs lo hi = xs := by
  unfold cutV
  rw [h.1, h.2]
  simp
theorem ae_slT {lo hi : Option Expr} {gl gh : OF} {p2 : Pos} (he : AE X W e fe) (hl : AO' X W lo gl) (hh : AO' X W hi gh) : AE X W (.Subscript e (.Slice lo hi none p2) pos) (eSl fe gl gh) :=
  (pe_slice sl_tupA he hl hh).weak fun σ H Q ⟨μ, env, st, hs, er, p⟩ => ⟨μ, env, st, hs, er, Post.bind p fun x st1 μ1 H1 v _ x1 hs1 r1 p1 =>
    ⟨μ1, env, st1, hs1, er.ext hs x1, Post.bind p1 fun lo st2 μ2 H2 l _ x2 hs2 r2 p2 => ⟨μ2, env, st2, hs2, (er.ext hs x1).ext hs1 x2, Post.bind p2 fun hi st3 μ3 H3 u _ x3 hs3 r3 p3 => by
      have r1 := RelD.ext hs1 (x2.trans x3) _ _ r1
      have r2 : l = lo := r2
      have r3 : u = hi := r3
      subst r2; subst r3
      cases x with
      | tup ds =>
        obtain ⟨a, vs, rfl, q, rs⟩ := r1
        refine ⟨a, vs, rfl, .of q, fun hw => ?_, fun hw p hp => ?_⟩
        · refine p3 μ3 H3 _ .refl hs3 ⟨a, vs, rfl, q, ?_⟩
          have := rs.cutV l u
          rwa [cutV_whole hw] at this
        · exact p3 μ3 _ _ (.new hp) (hs3.new hp) ⟨p, _, rfl, upd_same, RelDs.ext hs3 (.new hp) _ _ (rs.cutV l u)⟩
      | _ => exact p3.elim⟩⟩⟩
/-- xs[lo:hi] of a list of the store -/
def lSl (fe : EF) (fl fh : OF) : LF := fun env st => (fe env st).bind fun x st1 => (fl env st1).bind fun lo st2 => (fh env st2).bind fun hi st3 => match x with
  | .ref n => (match seqOf (.ref n) st3 with
    | some ds => .ok (cutD ds lo hi) st3
    | none => .bad)
  | _ => .bad
theorem al_slL {lo hi : Option Expr} {gl gh : OF} {p2 : Pos} (he : AE X W e fe) (hl : AO' X W lo gl) (hh : AO' X W hi gh) : AL X W (.Subscript e (.Slice lo hi none p2) pos) (lSl fe gl gh) :=
  (pe_slice sl_list he hl hh).weak fun σ H Q ⟨μ, env, st, hs, er, p⟩ => ⟨μ, env, st, hs, er, Post.bind0 p fun x st1 μ1 H1 v _ x1 hs1 r1 p1 =>
    ⟨μ1, env, st1, hs1, er.ext hs x1, by
      cases q : gl env st1 with
      | bad => rw [q] at p1; exact p1
      | exc x s => rw [q] at p1; exact (Post.later (rel := relL (gx X)) (r := .exc x s) (Q := Q) p1 x1)
      | ok lo st2 =>
        rw [q, R.bind_ok] at p1
        intro μ2 H2 l x2 hs2 r2
        refine ⟨μ2, env, st2, hs2, (er.ext hs x1).ext hs1 x2, ?_⟩
        cases q : gh env st2 with
        | bad => rw [q] at p1; exact p1
        | exc x s => rw [q] at p1; exact (Post.later (rel := relL (gx X)) (r := .exc x s) (Q := Q) p1 (x1.trans x2))
        | ok hi st3 =>
          rw [q, R.bind_ok] at p1
          intro μ3 H3 u x3 hs3 r3
          have r1 := RelD.ext hs1 (x2.trans x3) _ _ r1
          have r2 : l = lo := r2
          have r3 : u = hi := r3
          subst r2; subst r3
          cases x with
          | ref n =>
            obtain ⟨a, e1, rfl⟩ := r1
            simp only at p1
            split at p1
            · rename_i ds e2
              obtain ⟨vs, hq, rs⟩ := hs3.seq e1 e2
              exact ⟨a, vs, rfl, hq, fun p hp => p1 μ3 _ _ (((x1.trans x2).trans x3).trans (.new hp)) (hs3.new hp) ⟨p, _, rfl, Ext.back ((x1.trans x2).trans x3) .refl (hs3.fresh hp) hp, hs3.fresh hp, upd_same, RelDs.ext hs3 (.new hp) _ _ (rs.cutV l u)⟩⟩
            · exact p1.elim
          | _ => exact p1.elim⟩⟩

/-! ## zip of two tuples or two lists -/
def zipD : List D → List D → List D
  | x :: xs, y :: ys => .tup [x, y] :: zipD xs ys
  | _, _ => []
def iZipF (fr : LF) : IF := fun env st => (fr env st).bind fun ds st1 => match ds with
  | [.tup xs, .tup ys] => .ok (zipD xs ys, []) st1
  | _ => .bad
theorem zipD_get : ∀ (xs ys : List D) (i : Nat), (zipD xs ys)[i]? = match xs[i]?, ys[i]? with
    | some x, some y => some (.tup [x, y])
    | _, _ => none
  | [], ys, i => by simp [zipD]
  | x :: xs, [], i => by
    simp only [zipD, List.getElem?_nil]
    split <;> simp_all
  | x :: xs, y :: ys, 0 => by simp [zipD]
  | x :: xs, y :: ys, i + 1 => by simpa [zipD] using zipD_get xs ys i
theorem zipD_len : ∀ (xs ys : List D), (zipD xs ys).length = min xs.length ys.length
  | [], ys => by simp [zipD]
  | x :: xs, [] => by simp [zipD]
  | x :: xs, y :: ys => by simp [zipD, zipD_len xs ys]
theorem IterR.zipT {G : GX} {μ : List Addr} {H : Hp} {st : Store} {a b : Addr} {vs us : List V} {xs ys : List D} (hs : HS G μ H st) (q : SqT G.K H a vs) (r : RelDs G μ H xs vs) (q' : SqT G.K H b us) (r' : RelDs G μ H ys us) :
    IterR G μ H (zipD xs ys, []) (RZ.ItzT G.K a b) where
  go := fun μ1 H1 st1 e hs1 _ i hi => by
    have hi : i < min xs.length ys.length := by rw [← zipD_len]; exact hi
    have h1 : i < vs.length := by rw [r.length]; omega
    have h2 : i < us.length := by rw [r'.length]; omega
    exact ⟨vs, us, vs[i], us[i], SqT_ext hs e q, SqT_ext hs e q', by simp [h1], by simp [h2]⟩
  yld := fun μ1 H1 st1 e hs1 _ i x H2 hi y => by
    obtain ⟨T, x1, x2, rfl, nT, rfl, f1, f2⟩ := y
    have g1 := f1 _ (SqT_ext hs e q)
    have g2 := f2 _ (SqT_ext hs e q')
    obtain ⟨d1, e1, rd1⟩ := r.get' g1
    obtain ⟨d2, e2, rd2⟩ := r'.get' g2
    have rd1 := RelD.ext hs (e.trans (.new (o := .tup [x1, x2]) nT)) _ _ rd1
    have rd2 := RelD.ext hs (e.trans (.new (o := .tup [x1, x2]) nT)) _ _ rd2
    exact ⟨.tup [d1, d2], by rw [zipD_get, e1, e2], .new nT, hs1.new nT, T, _, rfl, upd_same, .cons rd1 (.one rd2)⟩
  stop := fun μ1 H1 st1 e hs1 _ => by
    refine ⟨vs, us, SqT_ext hs e q, SqT_ext hs e q', ?_⟩
    show vs.length ≤ (zipD xs ys).length ∨ us.length ≤ (zipD xs ys).length
    rw [zipD_len, r.length, r'.length]
    omega
theorem ai_zipT {tpos p : Pos} {elts : List Expr} {kk : Nat} (hm : X.mg "zip" = none) (ha : AA X W [a, b] fr) (hg : Gl X "zip" := by rfl) (hs1 : starEach [a, b] X.env = (false, eval a X.env) :: starEach [b] X.env := by rfl)
    (hpl : (backTo pos (starEach [b] X.env)).any (·.1) = false := by rfl) : AI X W (.Tuple elts kk tpos) (.Call (.Name "zip" p) [a, b] [] pos) (iZipF fr) :=
  (RZ.pi_zipA hg hm ha hs1 hpl).weak fun σ H Q ⟨μ, env, st, hs, er, q⟩ => ⟨μ, env, st, hs, er, Post.bind q fun ds st1 μ1 H1 vs eq x1 hs' rs p1 => by
    split at p1
    · obtain ⟨v, rest, rfl, ⟨a, us, rfl, q1, r1⟩, v2, rest2, rfl, ⟨b, ws, rfl, q2, r2⟩, e0⟩ := rs
      cases e0
      exact ⟨a, b, us, ws, rfl, .inr ⟨.of q1, .of q2, p1 μ1 H1 _ .refl hs' (.zipT hs' (.of q1) r1 (.of q2) r2)⟩⟩
    · exact p1.elim⟩
end
end TK

set_option Elab.async false
set_option linter.all false
set_option maxRecDepth 100000
set_option maxHeartbeats 4000000
namespace TK
open PySem PySem.Spec
open PyProof.Rows hiding St
open L2
/-! ## raise of a class of the text that has no __init__ -/
def RaiF (G : GX) (x : Str) : Prop := ∃ C, G.mg x = some (.ref C) ∧ PySem.W.excIn G.K C HandSPX.veTail "ValueError.__new__" = true ∧ PySem.W.keepIn G.K (.ref C) = true ∧
  PySem.W.subIn G.K (.ref C) (.type "BaseException") = some true ∧ PySem.W.typeIn G.K (.ref C) = some (.type "type")
def sRaise (x : Str) : SF := fun env st => .exc env ⟨x, []⟩ st
section
variable {X : Cx} {W : WX} {pos p p2 : Pos} {lv : Nat}
theorem as_raise {x : Str} (c : Ctx X W lv) (h : RaiF (gx X) x) (hg : Gl X x := by rfl) (hdb : (x == ("__debug__" : Str)) = false := by decide) : AS X W (.Raise (some (.Call (.Name x p) [] [] p2)) none pos) (sRaise x) := by
  obtain ⟨C, h1, h2, h3, h4, h5⟩ := h
  exact (ps_raise c.calm c.tk (pmk_ownN PySem.F.excBase_ValueError h2 h1 h3 (raises_own h4 h5) hg hdb)).weak fun Dn σ H ⟨μ, env, st, hs, er, q⟩ => q μ H σ (.ref C) none .refl hs er ⟨C, h1, rfl, rfl⟩
end
end TK

set_option Elab.async false
set_option linter.all false
set_option maxRecDepth 100000
set_option maxHeartbeats 4000000
namespace TK
open PySem PySem.Spec
open PyProof.Rows hiding St
open L2

section
variable {X : Cx} {W : WX} {a b c e o : Expr} {es : List Expr} {fa fb fe fo : EF} {fl fl' fr : LF} {pos pos' : Pos} {lv : Nat}
/-! ## enumerate -/
def enumFrom : Nat → List D → List D
  | _, [] => []
  | k, x :: xs => .tup [.int k, x] :: enumFrom (k + 1) xs
theorem enumFrom_get : ∀ (k : Nat) (xs : List D) (i : Nat), (enumFrom k xs)[i]? = (xs[i]?).map fun x => .tup [.int ((k + i : Nat) : Int), x]
  | k, [], i => by simp [enumFrom]
  | k, x :: xs, 0 => by simp [enumFrom]
  | k, x :: xs, i + 1 => by
    simp only [enumFrom, List.getElem?_cons_succ]
    rw [enumFrom_get (k + 1) xs i]
    have : k + 1 + i = k + (i + 1) := by omega
    rw [this]
theorem enumFrom_len : ∀ (k : Nat) (xs : List D), (enumFrom k xs).length = xs.length
  | _, [] => rfl
  | k, x :: xs => by simp [enumFrom, enumFrom_len (k + 1) xs]
def iEnumF (fr : LF) : IF := fun env st => (fr env st).bind fun ds st1 => match ds with
  | [.tup xs] => .ok (enumFrom 0 xs, []) st1
  | [.ref n] => (match seqOf (.ref n) st1 with
    | some xs => .ok (enumFrom 0 xs, [(n, xs)]) st1
    | none => .bad)
  | _ => .bad
/-- over a new list -/
def iEnumL (fl : LF) : IF := fun env st => (fl env st).bind fun ds st1 => .ok (enumFrom 0 ds, []) st1
theorem IterR.enT {G : GX} {μ : List Addr} {H : Hp} {st : Store} {a : Addr} {vs : List V} {xs : List D} (hs : HS G μ H st) (q : SqT G.K H a vs) (r : RelDs G μ H xs vs) : IterR G μ H (enumFrom 0 xs, []) (IteT G.K a) where
  go := fun μ1 H1 st1 e hs1 _ i hi => by
    have hi : i < xs.length := by rw [← enumFrom_len 0 xs]; exact hi
    exact ⟨vs, vs[i]'(by rw [r.length]; exact hi), SqT_ext hs e q, by simp [r.length, hi]⟩
  yld := fun μ1 H1 st1 e hs1 _ i x H2 hi y => by
    obtain ⟨T, x1, rfl, nT, rfl, f1⟩ := y
    obtain ⟨d1, e1, rd1⟩ := r.get' (f1 _ (SqT_ext hs e q))
    have rd1 := RelD.ext hs (e.trans (.new (o := .tup [.int (i : Nat), x1]) nT)) _ _ rd1
    exact ⟨.tup [.int i, d1], by rw [enumFrom_get, e1]; simp, .new nT, hs1.new nT, T, _, rfl, upd_same, .cons rfl (.one rd1)⟩
  stop := fun μ1 H1 st1 e hs1 _ => ⟨vs, SqT_ext hs e q, by show vs.length ≤ (enumFrom 0 xs).length; rw [enumFrom_len, r.length]; exact Nat.le_refl _⟩
theorem IterR.enL {G : GX} {μ : List Addr} {H : Hp} {st : Store} {a : Addr} {vs : List V} {xs : List D} (hs : HS G μ H st) (hn : a ∉ μ) (q : H a = some (.lst vs)) (r : RelDs G μ H xs vs) : IterR G μ H (enumFrom 0 xs, []) (Ite G.K a) where
  go := fun μ1 H1 st1 e hs1 _ i hi => by
    have hi : i < xs.length := by rw [← enumFrom_len 0 xs]; exact hi
    exact ⟨vs, vs[i]'(by rw [r.length]; exact hi), .of (e.lst hn q), by simp [r.length, hi]⟩
  yld := fun μ1 H1 st1 e hs1 _ i x H2 hi y => by
    obtain ⟨T, x1, rfl, nT, rfl, f1⟩ := y
    obtain ⟨d1, e1, rd1⟩ := r.get' (f1 _ (.of (e.lst hn q)))
    have rd1 := RelD.ext hs (e.trans (.new (o := .tup [.int (i : Nat), x1]) nT)) _ _ rd1
    exact ⟨.tup [.int i, d1], by rw [enumFrom_get, e1]; simp, .new nT, hs1.new nT, T, _, rfl, upd_same, .cons rfl (.one rd1)⟩
  stop := fun μ1 H1 st1 e hs1 _ => ⟨vs, .of (e.lst hn q), by show vs.length ≤ (enumFrom 0 xs).length; rw [enumFrom_len, r.length]; exact Nat.le_refl _⟩
theorem IterR.enR {G : GX} {μ : List Addr} {H : Hp} {n : Nat} {a : Addr} {xs : List D} (e0 : μ[n]? = some a) : IterR G μ H (enumFrom 0 xs, [(n, xs)]) (Ite G.K a) where
  go := fun μ1 H1 st1 e hs1 g i hi => by
    obtain ⟨ν, rfl, _, _⟩ := e
    obtain ⟨vs, q, r⟩ := hs1.seq (by rw [List.getElem?_append_left (List.getElem?_eq_some_iff.mp e0).1]; exact e0) (g (n, xs) (by simp))
    have hi : i < xs.length := by rw [← enumFrom_len 0 xs]; exact hi
    exact ⟨vs, vs[i]'(by rw [r.length]; exact hi), q, by simp [r.length, hi]⟩
  yld := fun μ1 H1 st1 e hs1 g i x H2 hi y => by
    obtain ⟨ν, rfl, _, _⟩ := e
    obtain ⟨vs, q, r⟩ := hs1.seq (by rw [List.getElem?_append_left (List.getElem?_eq_some_iff.mp e0).1]; exact e0) (g (n, xs) (by simp))
    obtain ⟨T, x1, rfl, nT, rfl, f1⟩ := y
    obtain ⟨d1, e1, rd1⟩ := r.get' (f1 _ q)
    have rd1 := RelD.ext hs1 (.new (o := .tup [.int (i : Nat), x1]) nT) _ _ rd1
    exact ⟨.tup [.int i, d1], by rw [enumFrom_get, e1]; simp, .new nT, hs1.new nT, T, _, rfl, upd_same, .cons rfl (.one rd1)⟩
  stop := fun μ1 H1 st1 e hs1 g => by
    obtain ⟨ν, rfl, _, _⟩ := e
    obtain ⟨vs, q, r⟩ := hs1.seq (by rw [List.getElem?_append_left (List.getElem?_eq_some_iff.mp e0).1]; exact e0) (g (n, xs) (by simp))
    exact ⟨vs, q, by show vs.length ≤ (enumFrom 0 xs).length; rw [enumFrom_len, r.length]; exact Nat.le_refl _⟩
theorem ai_enum {tpos p : Pos} {elts : List Expr} {kk : Nat} (hm : X.mg "enumerate" = none) (ha : AA X W [a] fr) (hg : Gl X "enumerate" := by rfl) (hs1 : starEach [a] X.env = [(false, eval a X.env)] := by rfl) : AI X W (.Tuple elts kk tpos) (.Call (.Name "enumerate" p) [a] [] pos) (iEnumF fr) :=
  (pi_enumA hg hm ha hs1).weak fun σ H Q ⟨μ, env, st, hs, er, q⟩ => ⟨μ, env, st, hs, er, Post.bind q fun ds st1 μ1 H1 vs eq x1 hs' rs p1 => by
    split at p1
    · obtain ⟨v, rest, rfl, ⟨a, us, rfl, q1, r1⟩, e0⟩ := rs
      cases e0
      exact ⟨a, us, rfl, .inr ⟨.of q1, p1 μ1 H1 _ .refl hs' (.enT hs' (.of q1) r1)⟩⟩
    · obtain ⟨v, rest, rfl, ⟨a, e1, rfl⟩, e0⟩ := rs
      cases e0
      split at p1
      · rename_i xs e2
        obtain ⟨us, q1, r1⟩ := hs'.seq e1 e2
        exact ⟨a, us, rfl, .inl ⟨q1, p1 μ1 H1 _ .refl hs' (.enR e1)⟩⟩
      · exact p1.elim
    · exact p1.elim⟩
theorem ai_enumL {tpos p : Pos} {elts : List Expr} {kk : Nat} (hm : X.mg "enumerate" = none) (ha : AL X W a fl) (hg : Gl X "enumerate" := by rfl) (hs1 : starEach [a] X.env = [(false, eval a X.env)] := by rfl) : AI X W (.Tuple elts kk tpos) (.Call (.Name "enumerate" p) [a] [] pos) (iEnumL fl) :=
  (pi_enumA hg hm (pa_cons ha pa_nil hs1) hs1).weak fun σ H Q ⟨μ, env, st, hs, er, q⟩ => ⟨μ, env, st, hs, er, Post.bind q fun ds st1 μ1 H1 v eq x1 hs' rs p1 => by
    obtain ⟨a, us, rfl, _, hn, q1, r1⟩ := rs
    exact ⟨a, us, rfl, .inl ⟨.of q1, p1 μ1 H1 _ .refl hs' (.enL hs' hn q1 r1)⟩⟩⟩
/-! ## zip of two lists -/
def iZipA (fr : LF) : IF := fun env st => (fr env st).bind fun ds st1 => match ds with
  | [.tup xs, .tup ys] => .ok (zipD xs ys, []) st1
  | [.ref n, .ref m] => (match seqOf (.ref n) st1, seqOf (.ref m) st1 with
    | some xs, some ys => .ok (zipD xs ys, [(n, xs), (m, ys)]) st1
    | _, _ => .bad)
  | _ => .bad
theorem IterR.zipR {G : GX} {μ : List Addr} {H : Hp} {n m : Nat} {a b : Addr} {xs ys : List D} (ea : μ[n]? = some a) (eb : μ[m]? = some b) : IterR G μ H (zipD xs ys, [(n, xs), (m, ys)]) (Itz G.K a b) := by
  have look : ∀ {μ1 H1 st1}, Ext μ H μ1 H1 → HS G μ1 H1 st1 → gOK (zipD xs ys, [(n, xs), (m, ys)]) st1 → ∃ vs us, SqL G.K H1 a vs ∧ RelDs G μ1 H1 xs vs ∧ SqL G.K H1 b us ∧ RelDs G μ1 H1 ys us := by
    intro μ1 H1 st1 e hs1 g
    obtain ⟨ν, rfl, _, _⟩ := e
    obtain ⟨vs, q, r⟩ := hs1.seq (by rw [List.getElem?_append_left (List.getElem?_eq_some_iff.mp ea).1]; exact ea) (g (n, xs) (by simp))
    obtain ⟨us, q', r'⟩ := hs1.seq (by rw [List.getElem?_append_left (List.getElem?_eq_some_iff.mp eb).1]; exact eb) (g (m, ys) (by simp))
    exact ⟨vs, us, q, r, q', r'⟩
  refine ⟨fun μ1 H1 st1 e hs1 g i hi => ?_, fun μ1 H1 st1 e hs1 g i x H2 hi y => ?_, fun μ1 H1 st1 e hs1 g => ?_⟩
  · obtain ⟨vs, us, q, r, q', r'⟩ := look e hs1 g
    have hi : i < min xs.length ys.length := by rw [← zipD_len]; exact hi
    have h1 : i < vs.length := by rw [r.length]; omega
    have h2 : i < us.length := by rw [r'.length]; omega
    exact ⟨vs, us, vs[i], us[i], q, q', by simp [h1], by simp [h2]⟩
  · obtain ⟨vs, us, q, r, q', r'⟩ := look e hs1 g
    obtain ⟨T, x1, x2, rfl, nT, rfl, f1, f2⟩ := y
    obtain ⟨d1, e1, rd1⟩ := r.get' (f1 _ q)
    obtain ⟨d2, e2, rd2⟩ := r'.get' (f2 _ q')
    have rd1 := RelD.ext hs1 (.new (o := .tup [x1, x2]) nT) _ _ rd1
    have rd2 := RelD.ext hs1 (.new (o := .tup [x1, x2]) nT) _ _ rd2
    exact ⟨.tup [d1, d2], by rw [zipD_get, e1, e2], .new nT, hs1.new nT, T, _, rfl, upd_same, .cons rd1 (.one rd2)⟩
  · obtain ⟨vs, us, q, r, q', r'⟩ := look e hs1 g
    refine ⟨vs, us, q, q', ?_⟩
    show vs.length ≤ (zipD xs ys).length ∨ us.length ≤ (zipD xs ys).length
    rw [zipD_len, r.length, r'.length]
    omega
theorem ai_zip {tpos p : Pos} {elts : List Expr} {kk : Nat} (hm : X.mg "zip" = none) (ha : AA X W [a, b] fr) (hg : Gl X "zip" := by rfl) (hs1 : starEach [a, b] X.env = (false, eval a X.env) :: starEach [b] X.env := by rfl)
    (hpl : (backTo pos (starEach [b] X.env)).any (·.1) = false := by rfl) : AI X W (.Tuple elts kk tpos) (.Call (.Name "zip" p) [a, b] [] pos) (iZipA fr) :=
  (RZ.pi_zipA hg hm ha hs1 hpl).weak fun σ H Q ⟨μ, env, st, hs, er, q⟩ => ⟨μ, env, st, hs, er, Post.bind q fun ds st1 μ1 H1 vs eq x1 hs' rs p1 => by
    split at p1
    · obtain ⟨v, rest, rfl, ⟨a, us, rfl, q1, r1⟩, v2, rest2, rfl, ⟨b, ws, rfl, q2, r2⟩, e0⟩ := rs
      cases e0
      exact ⟨a, b, us, ws, rfl, .inr ⟨.of q1, .of q2, p1 μ1 H1 _ .refl hs' (.zipT hs' (.of q1) r1 (.of q2) r2)⟩⟩
    · obtain ⟨v, rest, rfl, ⟨a, ea, rfl⟩, v2, rest2, rfl, ⟨b, eb, rfl⟩, e0⟩ := rs
      cases e0
      split at p1
      · rename_i xs ys e1 e2
        obtain ⟨us, q1, r1⟩ := hs'.seq ea e1
        obtain ⟨ws, q2, r2⟩ := hs'.seq eb e2
        exact ⟨a, b, us, ws, rfl, .inl ⟨q1, q2, p1 μ1 H1 _ .refl hs' (.zipR ea eb)⟩⟩
      · exact p1.elim
    · exact p1.elim⟩
/-! ## list(range(..)), tuple(range(..)) -/
theorem rgRel {G : GX} {μ : List Addr} {H : Hp} (i j : Int) : RelDs G μ H (rangeD i (j - i).toNat) (rgV i j) := by
  refine .of_all (by rw [rgV_length, rangeD_len]) fun k d v e1 e2 => ?_
  rw [rangeD_get] at e1
  split at e1
  · rename_i hk
    cases e1
    unfold rgV at e2
    rw [List.getElem?_map, List.getElem?_range hk] at e2
    cases e2
    rfl
  · cases e1
def rgOk (i j : Int) : Prop := -(2 ^ 62) ≤ i ∧ i < 2 ^ 62 ∧ -(2 ^ 62) ≤ j ∧ j < 2 ^ 62 ∧ (j - i).toNat ≤ 2 ^ 24
instance (i j : Int) : Decidable (rgOk i j) := by unfold rgOk; infer_instance
noncomputable def lRng1 (fe : EF) : LF := fun env st => (fe env st).bind fun d st1 => match d with
  | .int j => hid (if rgOk 0 j then .ok (rangeD 0 j.toNat) st1 else .bad)
  | _ => .bad
theorem al_listRng1 {p p2 pos2 : Pos} (cx : Ctx X W lv) (hm : X.mg "list" = none) (hm2 : X.mg "range" = none) (ha : AE X W a fe) (hg : Gl X "list" := by rfl) (hg2 : Gl X "range" := by rfl) (na : starEach [a] X.env = (false, eval a X.env) :: starEach [] X.env := by rfl)
    (na2 : starEach [.Call (.Name "range" p2) [a] [] pos2] X.env = (false, eval (.Call (.Name "range" p2) [a] [] pos2) X.env) :: starEach [] X.env := by rfl) :
    AL X W (.Call (.Name "list" p) [.Call (.Name "range" p2) [a] [] pos2] [] pos) (lRng1 fe) := (pe_listRg cx.calm hg hm (prg_1 hg2 hm2 ha na) na2).weak fun σ H Q ⟨μ, env, st, hs, er, q⟩ =>
    ⟨μ, env, st, hs, er, Post.bind0 q fun d st1 μ1 H1 v _ x1 hs1 r1 p1 => by
      cases d with
      | int j =>
        cases r1
        simp only [hid_eq] at p1
        split at p1
        · rename_i h
          refine ⟨j, rfl, h, fun l hl => p1 μ1 _ _ (x1.trans (.new hl)) (hs1.new hl) ⟨l, _, rfl, Ext.back x1 .refl (hs1.fresh hl) hl, hs1.fresh hl, upd_same, ?_⟩⟩
          have := rgRel (G := gx X) (μ := μ1) (H := upd H1 l (.lst (rgV 0 j))) 0 j
          rwa [Int.sub_zero] at this
        · exact p1.elim
      | _ => exact p1.elim⟩
noncomputable def eRng1 (fe : EF) : EF := fun env st => (fe env st).bind fun d st1 => match d with
  | .int j => hid (if rgOk 0 j then .ok (.tup (rangeD 0 j.toNat)) st1 else .bad)
  | _ => .bad
theorem ae_tupRng1 {p p2 pos2 : Pos} (cx : Ctx X W lv) (hm : X.mg "tuple" = none) (hm2 : X.mg "range" = none) (ha : AE X W a fe) (hg : Gl X "tuple" := by rfl) (hg2 : Gl X "range" := by rfl) (na : starEach [a] X.env = (false, eval a X.env) :: starEach [] X.env := by rfl)
    (na2 : starEach [.Call (.Name "range" p2) [a] [] pos2] X.env = (false, eval (.Call (.Name "range" p2) [a] [] pos2) X.env) :: starEach [] X.env := by rfl) :
    AE X W (.Call (.Name "tuple" p) [.Call (.Name "range" p2) [a] [] pos2] [] pos) (eRng1 fe) := (pe_tupRg cx.calm hg hm (prg_1 hg2 hm2 ha na) na2).weak fun σ H Q ⟨μ, env, st, hs, er, q⟩ =>
    ⟨μ, env, st, hs, er, Post.bind0 q fun d st1 μ1 H1 v _ x1 hs1 r1 p1 => by
      cases d with
      | int j =>
        cases r1
        simp only [hid_eq] at p1
        split at p1
        · rename_i h
          refine ⟨j, rfl, h, fun l hl => p1 μ1 _ _ (x1.trans (.new hl)) (hs1.new hl) ⟨l, _, rfl, upd_same, ?_⟩⟩
          have := rgRel (G := gx X) (μ := μ1) (H := upd H1 l (.tup (rgV 0 j))) 0 j
          rwa [Int.sub_zero] at this
        · exact p1.elim
      | _ => exact p1.elim⟩
/-! ## pop -/
theorem ae_pop {apos cpos : Pos} (ho : AE X W o fo) (hbase : attributeBase o "pop" X.env (eval o X.env) = eval o X.env := by rfl) (hline : (apos.endLine == cpos.line) = true := by rfl) : AE X W (.Call (.Attribute o "pop" apos) [] [] cpos) (eM isLst popG fo lNil) :=
  ae_bm0 PySem.F.plainAttrs_list PySem.F.slot_list_pop PySem.F.type_list_pop mt_pop tyLst popA ho hbase hline
theorem ae_popAt {apos cpos : Pos} (ho : AE X W o fo) (ha : AA X W [e] fr) (hbase : attributeBase o "pop" X.env (eval o X.env) = eval o X.env := by rfl)
    (hfew : ((backTo cpos (starEach [e] X.env)).all (fun x => !x.1) && (backToKw cpos (keywordEach [] X.env)).all (fun x => x.1.isSome)
      && decide (([e] : List Expr).length + ([] : List Keyword).length + (if ([] : List Keyword).isEmpty then 0 else 1) < 30)) = true := by rfl)
    (hline : (apos.endLine == cpos.line) = true := by rfl) (hs : starEach [e] X.env = (false, eval e X.env) :: starEach [] X.env := by rfl) : AE X W (.Call (.Attribute o "pop" apos) [e] [] cpos) (eM isLst popAtG fo fr) :=
  ae_bm PySem.F.plainAttrs_list PySem.F.slot_list_pop PySem.F.type_list_pop mt_popAt tyLst popAtA ho ha hbase hfew hline hs rfl
end

/-! ## a def that calls itself: nothing is promised at the bottom -/
theorem FnA.bottom {P : Program} {w : World} {G : GX} {base : Heap} {x qual : Str} {st : Stmt} {f : Addr} {fd : FuncData} {N ps : List Str} {k : Nat} (F : Fun G.K x qual st f fd) (S : FnScope N ps (defScope st)) (hm : G.mg x = some (.ref f)) (hb : Binds G.K fd ps []) :
    FnA G P w base (k + 1) x ps.length (fun _ _ => .bad) := by
  refine ⟨f, fd, ps, ?_, hm, F.kp, hb⟩
  refine F.okX S (fun vs H Q E q => ?_) fun cdv A outer s H vs Q E hr hsp => ?_
  · obtain ⟨μ, st, ds, _, r, _, hl⟩ := q
    rw [r.length, hl]
  · obtain ⟨μ, sto, ds, hs, r, p, hl⟩ := hsp
    exact p.elim
end TK

set_option Elab.async false
set_option linter.all false
set_option maxRecDepth 100000
set_option maxHeartbeats 4000000
namespace TK
open PySem PySem.Spec
open PyProof.Rows hiding St
open L2
/-! # the ends -/
section
variable {G : GX} {P : Program} {w : World} {base : Heap}
theorem FnOk.ofA {x qual : Str} {st : Stmt} {f : Addr} {fd : FuncData} {N ps : List Str} {k : Nat} {body : SF} (F : Fun G.K x qual st f fd) (S : FnScope N ps (defScope st))
    (h : ∀ (cdv : Value) (A : Around) (outer : List Env) (s : Shared) (H : Hp) (E : XK),
      Ctx (cxOf (L2.CX P w) P w G.K G.mg base N qual (defScope st) f cdv A outer s H E) (fun C od _ H' => E C od H') k → ASs (cxOf (L2.CX P w) P w G.K G.mg base N qual (defScope st) f cdv A outer s H E) (fun C od _ H' => E C od H') (defBody st) body) :
    FnOk P w G.K G.mg base (L2.CX P w) (k + 1) f fd ps (spA G (runDef N.length body) ps.length) := by
  refine F.okX S (fun vs H Q E q => ?_) fun cdv A outer s H vs Q E hr hsp => ?_
  · obtain ⟨μ, st, ds, _, r, _, hl⟩ := q
    rw [r.length, hl]
  · obtain ⟨μ, sto, ds, hs, r, p, hl⟩ := hsp
    have c : Ctx (cxOf (L2.CX P w) P w G.K G.mg base N qual (defScope st) f cdv A outer s H E) (fun C od _ H' => E C od H') k :=
      ⟨S.nd, rfl, hr, passes_of rfl, takes_of rfl rfl rfl rfl⟩
    refine ⟨_, h cdv A outer s H E c, ?_⟩
    refine ⟨μ, ds.map some ++ List.replicate (N.length - ds.length) none, sto, hs, EnvR.start (n := N.length) r, ?_⟩
    · unfold runDef at p
      cases q : body (ds.map some ++ List.replicate (N.length - ds.length) none) sto with
      | next env' st' => rw [q] at p; exact fun μ' H' σ' e hs' er' => p μ' H' .non e hs' rfl
      | ret d st' => rw [q] at p; exact p
      | brk env' st' => rw [q] at p; exact p.elim
      | cont env' st' => rw [q] at p; exact p.elim
      | exc env' x st' => rw [q] at p; exact fun μ' H' σ' C od e hs' er' rx => p μ' H' C od e hs' rx
      | bad => rw [q] at p; exact p.elim
end
/-- no list among the module's own objects -/
def noListK (K : PySem.W.Frag) : Bool := K.all fun p => match p.2.cls with
  | .type n => n != "list"
  | _ => true
theorem noListK_ok {K : PySem.W.Frag} (h : noListK K = true) {a : Addr} {o : Obj} (e : K.lookup a = some o) : o.cls ≠ .type "list" := by
  unfold noListK at h
  rw [List.all_eq_true] at h
  have key : ∀ (l : List (Addr × Obj)), l.lookup a = some o → ∃ b, (b, o) ∈ l := by
    intro l
    induction l with
    | nil => intro e; cases e
    | cons p r ih =>
      intro e
      obtain ⟨b, o'⟩ := p
      rw [List.lookup_cons] at e
      cases q : a == b with
      | true => rw [q] at e; cases e; exact ⟨b, List.mem_cons_self⟩
      | false => rw [q] at e; obtain ⟨b', hb⟩ := ih e; exact ⟨b', List.mem_cons_of_mem _ hb⟩
  obtain ⟨b, hb⟩ := key K e
  have := h _ hb
  intro z
  simp [z] at this
theorem relDs_ints {G : GX} {μ : List Addr} {H : Hp} : ∀ ns : List Int, RelDs G μ H (ns.map D.int) (ns.map V.int)
  | [] => rfl
  | n :: ns => ⟨_, _, rfl, rfl, relDs_ints ns⟩
theorem law_start {G : GX} {H : Hp} {a : Addr} {ns : List Int} {m : List D → Store → R D} (hk : noListK G.K = true) (hO : Only H) (hS : SqL G.K H a (ns.map V.int))
    (hm : ∃ st', m [.ref 0] [.rol (ns.map D.int)] = .ok (.bl true) st') : spA G m 1 [.ref a] H (fun v _ => v = .bl true) (fun _ _ _ => False) := by
  have hf : ∃ ob, H a = some (.frz ob (.lst (ns.map V.int))) := by
    rcases hS with (hS | ⟨ob, hS⟩) | ⟨o, its, n, h1, h2, _⟩
    · rcases hO a with z | ⟨o, xs, z⟩
      · rw [hS] at z; cases z
      · rw [hS] at z; cases z
    · exact ⟨ob, hS⟩
    · exact absurd h2 (noListK_ok hk h1)
  obtain ⟨ob, hf⟩ := hf
  obtain ⟨st', hm⟩ := hm
  refine ⟨[a], [.rol (ns.map D.int)], [.ref 0], ⟨by simp, rfl, fun i b o e1 e2 => ?_⟩, ⟨_, _, rfl, ⟨a, rfl, rfl⟩, rfl⟩, ?_, rfl⟩
  · cases i with
    | zero =>
      cases e1; cases e2
      exact ⟨_, hf, ob, _, rfl, relDs_ints ns⟩
    | succ i => cases e1
  · rw [hm]
    intro μ' H' v _ _ r
    exact r
/-- the law's promise at the head -/
def spEnd (K : PySem.W.Frag) (n : Nat) : Sp := fun vs H Q E => ∃ (a : Addr) (ns : List Int), vs = [.ref a] ∧ ns.length ≤ n ∧ Only H ∧ SqL K H a (ns.map V.int) ∧ ∀ H', Q (.bl true) H'
theorem FnOk.atEnd {P : Program} {w : World} {K : PySem.W.Frag} {mg : Str → Option Value} {base : Heap} {CX : CXT} {k n : Nat} {f : Addr} {fd : FuncData} {ps : List Str} {m : List D → Store → R D} (F : FnOk P w K mg base CX k f fd ps (spA ⟨K, mg⟩ m 1))
    (hk : noListK K = true) (hm : ∀ ns : List Int, ns.length ≤ n → ∃ st', m [.ref 0] [.rol (ns.map D.int)] = .ok (.bl true) st') : FnOk P w K mg base CX k f fd ps (spEnd K n) :=
  F.imp fun vs H Q E ⟨a, ns, e, hl, hO, hS, hQ⟩ => by
    subst e
    obtain ⟨μ, st, ds, h1, h2, h3, h4⟩ := law_start (G := ⟨K, mg⟩) hk hO hS (hm ns hl)
    exact ⟨μ, st, ds, h1, h2, by
      cases q : m ds st with
      | ok d st' =>
        rw [q] at h3
        intro μ' H' y e1 e2 e3
        have := h3 μ' H' y e1 e2 e3
        subst this
        exact hQ H'
      | exc x st' => rw [q] at h3; exact fun μ' H' C od e1 e2 e3 => (h3 μ' H' C od e1 e2 e3).elim
      | bad => rw [q] at h3; exact h3.elim, h4⟩
theorem CX_no {P : Program} {w : World} (H : Hp) (s : Shared) (e : Value) (s' : Shared) (h : L2.CX P w [] H s (fun _ _ _ => False) e s') : False := by
  obtain ⟨_, _, _, _, _, _, _, _, _, _, _, _, z⟩ := h
  exact z
theorem funF_of {K : PySem.W.Frag} {h : Heap} {mg : Str → Option Value} {x : Str} {st : Stmt} (X : K.In h) (N : h.Ns mainGlobals mg) {f : Addr} {od an : Option Addr} {sl : Array (Option Value)} {oc kV dc pm cd ct : Value}
    (a : PySem.W.nsIn K mainGlobals x = some (some (.ref f))) (l : K.lookup f = some ⟨oc, od, .func (PySem.W.fnOf x x (defArgs st) (defBody st) (defScope st) .none kV dc pm an cd ct), sl⟩)
    (c : PySem.W.codeIn K cd x = true) (k : PySem.W.keepIn K (.ref f) = true) : FunF ⟨K, mg⟩ x st := ⟨f, _, fun_mk (st := st) l c k, PySem.W.mg_of X N a⟩
theorem raiF_of {K : PySem.W.Frag} {h : Heap} {mg : Str → Option Value} {x : Str} (X : K.In h) (N : h.Ns mainGlobals mg) {C : Addr} (a : PySem.W.nsIn K mainGlobals x = some (some (.ref C)))
    (e : PySem.W.excIn K C HandSPX.veTail "ValueError.__new__" = true) (k : PySem.W.keepIn K (.ref C) = true) (s : PySem.W.subIn K (.ref C) (.type "BaseException") = some true)
    (t : PySem.W.typeIn K (.ref C) = some (.type "type")) : RaiF ⟨K, mg⟩ x := ⟨C, PySem.W.mg_of X N a, e, k, s, t⟩
end TK

set_option Elab.async false
set_option linter.all false
set_option maxRecDepth 100000
set_option maxHeartbeats 4000000
namespace TK
open PySem PySem.Spec
open PyProof.Rows hiding St
open L2
/-! # what is never reached; instances made; fields written -/
def sBad : SF := fun _ _ => .bad
def eBad : EF := fun _ _ => .bad
section
variable {X : Cx} {W : WX} {v o e : Expr} {es : List Expr} {fo fe : EF} {fr : LF} {pos pos' p : Pos} {lv k n : Nat}
theorem as_never (s : Stmt) : AS X W s sBad := ⟨fun pins s σ H D I ⟨μ, env, st, hs, er, q⟩ => q.elim⟩
theorem ae_never (e : Expr) : AE X W e eBad := ⟨fun pins s σ H D I ⟨μ, env, st, hs, er, q⟩ => q.elim⟩
theorem RelF.put {G : GX} {μ : List Addr} {H : Hp} {f : Str} {y : D} {v : V} (ry : RelD G μ H y v) : ∀ {fs : List (Str × D)} {vs : List (Str × V)}, RelF G μ H fs vs → RelF G μ H (putFD f y fs) (putF f v vs)
  | [], _, r => by
    cases r
    exact ⟨v, [], rfl, ry, rfl⟩
  | (x, d) :: fs, _, r => by
    obtain ⟨z, rest, rfl, rd, rs⟩ := r
    unfold putFD putF
    by_cases h : x = f
    · rw [if_pos h, if_pos h]
      exact ⟨v, rest, rfl, ry, rs⟩
    · rw [if_neg h, if_neg h]
      exact ⟨z, _, rfl, rd, RelF.put ry rs⟩
theorem RelF.length {G : GX} {μ : List Addr} {H : Hp} : ∀ {fs : List (Str × D)} {vs : List (Str × V)}, RelF G μ H fs vs → vs.length = fs.length
  | [], _, r => by cases r; rfl
  | (x, d) :: fs, _, r => by
    obtain ⟨z, rest, rfl, rd, rs⟩ := r
    simp [RelF.length rs]
def sFldA (cs : List Str) (f : Str) (fo fe : EF) : SF := fun env st => sOf (fe env st) env fun y st1 => sOf (fo env st1) env fun x st2 => match x with
  | .ref n => (match st2[n]? with
    | some (.ins c fs) => if c ∈ cs ∧ fs.length < 1000 then .next env (st2.set n (.ins c (putFD f y fs))) else .bad
    | _ => .bad)
  | _ => .bad
theorem as_fld (cs : List Str) {f : Str} (ho : AE X W o fo) (he : AE X W v fe) (hc : ∀ c ∈ cs, ∃ l, ClsA (gx X) c l ∧ f ∈ l) (hs : swapsWith v (some (.Attribute o f pos')) pos.line X.env = pure false := by rfl) : AS X W (.Assign [.Attribute o f pos'] v pos) (sFldA cs f fo fe) :=
  (ps_fld ho he hs).weak fun Dn σ H ⟨μ, env, st, hs, er, p⟩ => ⟨μ, env, st, hs, er, PostS.bind p hs er fun y st1 μ1 H1 v _ x1 hs1 r1 p1 =>
    ⟨μ1, env, st1, hs1, er.ext hs x1, PostS.bind p1 hs1 (er.ext hs x1) fun x st2 μ2 H2 ov _ x2 hs2 r2 p2 => by
      have r1 := RelD.ext hs1 x2 _ _ r1
      have er2 := (er.ext hs x1).ext hs1 x2
      split at p2
      · obtain ⟨a, e1, rfl⟩ := r2
        split at p2
        · rename_i c fs e2
          obtain ⟨_, h1, C, dx, vs, rfl, hm, rf⟩ := hs2.obj _ a _ e1 e2
          split at p2
          · rename_i hcs
            obtain ⟨l, k, hf⟩ := hc c hcs.1
            obtain ⟨k1, k2⟩ := k.ok C hm
            exact ⟨a, C, dx, vs, rfl, h1, k1, k2 f hf, by rw [rf.length]; exact hcs.2, p2 μ2 _ σ (.put e1) (hs2.put e1 ⟨C, dx, _, rfl, hm, rf.put r1⟩) (er2.wr (hs2.noTupAt e1))⟩
          · exact p2.elim
        · exact p2.elim
      · exact p2.elim⟩⟩
/-- an instance: its __init__ ended with None -/
def mkR (n : Nat) (r : R D) : R D := match r with
  | .ok .non st => .ok (.ref n) st
  | _ => .bad
noncomputable def eMake (x : Str) (m : List D → Store → R D) (fr : LF) : EF := fun env st => (fr env st).bind fun ds st1 => gcR st1 (mkR st1.length (m (.ref st1.length :: ds) (st1 ++ [.ins x []])))
structure MkA (G : GX) (P : Program) (w : World) (base : Heap) (k : Nat) (x : Str) (n : Nat) (m : List D → Store → R D) : Prop where
  ex : ∃ C f fd ps, FnOk P w G.K G.mg base (L2.CX P w) k f fd ps (spA G m n) ∧ G.mg x = some (.ref C) ∧ Mk G.K C f ∧ Binds G.K fd ps []
theorem ae_make {m : List D → Store → R D} {x : Str} (F : MkA (gx X) X.prog X.w X.base k x (n + 1) m) (c : Ctx X W lv) (ha : AA X W (e :: es) fr) (hn : ∀ env st ds st', fr env st = .ok ds st' → ds.length = n) (hk : k + 1 ≤ lv := by decide) (hg : Gl X x := by rfl)
    (hdb : (x == ("__debug__" : Str)) = false := by decide) (he : starEach (e :: es) X.env = (false, eval e X.env) :: starEach es X.env := by rfl) (hpl : (backTo pos (starEach es X.env)).any (·.1) = false := by rfl) :
    AE X W (.Call (.Name x p) (e :: es) [] pos) (eMake x m fr) := by
  obtain ⟨C, f, fd, ps, F, hm, M, hb⟩ := F.ex
  refine (pe_make (E := fun _ _ _ => False) M F (c.room.mono hk) hg hm hb .nil (fun pins σ H s e s' I z => by obtain ⟨_, _, _, _, _, _, _, _, _, _, _, _, z⟩ := z; exact z.elim) ha hdb he hpl).weak fun σ H Q ⟨μ, env, st, hs, er, q⟩ =>
    ⟨μ, env, st, hs, er, Post.bind q fun ds st1 μ1 H1 vs e1 x1 hs1 r1 p1 => ?_⟩
  intro a dx ha0 hd0 hne
  have p1 := Post.gc hs1 p1
  have hs2 : HS (gx X) μ1 (upd H1 dx (.own a)) st1 := hs1.new hd0
  have ex2 : Ext μ1 H1 μ1 (upd H1 dx (.own a)) := .new hd0
  have ha1 : (upd H1 dx (.own a)) a = none := by rw [upd_ne (Ne.symm hne)]; exact ha0
  obtain ⟨hs3, ex3⟩ := hs2.push (o := .ins C dx []) (ao := .ins x []) ha1 ⟨C, dx, [], rfl, hm, rfl⟩
  have hx : (μ1 ++ [a])[st1.length]? = some a := by rw [← hs1.len, List.getElem?_append_right (Nat.le_refl _)]; simp
  refine ⟨μ1 ++ [a], st1 ++ [.ins x []], .ref st1.length :: ds, hs3, ⟨_, _, rfl, ⟨a, hx, rfl⟩, ?_⟩, ?_, by simp [hn env st ds st1 e1]⟩
  · rw [List.append_nil]
    exact RelDs.ext hs1 (ex2.trans ex3) _ _ r1
  · cases q2 : m (.ref st1.length :: ds) (st1 ++ [.ins x []]) with
    | ok d st2 =>
      rw [q2] at p1
      cases d with
      | non =>
        intro μ' H' y x4 hs4 r4
        refine ⟨r4, p1 μ' H' (.ref a) ((ex2.trans ex3).trans x4) hs4 ⟨a, ?_, rfl⟩⟩
        obtain ⟨ν, rfl, _⟩ := x4
        rw [List.getElem?_append_left (List.getElem?_eq_some_iff.mp hx).1]
        exact hx
      | _ => exact p1.elim
    | exc x' st2 => rw [q2] at p1; exact p1.elim
    | bad => rw [q2] at p1; exact p1.elim
theorem cls1 {G : GX} {c f : Str} {l : List Str} (h : ClsA G c l) (hf : f ∈ l := by decide +kernel) : ∀ c' ∈ [c], ∃ l, ClsA G c' l ∧ f ∈ l := fun c' hc => by
  obtain rfl : c' = c := by simpa using hc
  exact ⟨l, h, hf⟩
/-- a class of the text, its __init__ -/
def ClsF (G : GX) (x qual : Str) (st : Stmt) : Prop := ∃ C f fd, G.mg x = some (.ref C) ∧ Mk G.K C f ∧ Fun G.K "__init__" qual st f fd
theorem clsF_of {K : PySem.W.Frag} {h : Heap} {mg : Str → Option Value} {x qual : Str} {st : Stmt} (X : K.In h) (N : h.Ns mainGlobals mg) {C f : Addr} {od an : Option Addr} {sl : Array (Option Value)} {oc kV dc pm cd ct : Value}
    (aC : PySem.W.nsIn K mainGlobals x = some (some (.ref C))) (a1 : PySem.W.findIn K (.ref C) "__init__" = some (some (.ref f))) (i1 : PySem.W.isFn K (.ref f) = true)
    (l1 : K.lookup f = some ⟨oc, od, .func (PySem.W.fnOf "__init__" qual (defArgs st) (defBody st) (defScope st) .none kV dc pm an cd ct), sl⟩) (c1 : PySem.W.codeIn K cd qual = true) (k1 : PySem.W.keepIn K (.ref f) = true)
    (mk : PySem.W.makesIn K C = true) (kc : PySem.W.keepIn K (.ref C) = true) : ClsF ⟨K, mg⟩ x qual st := ⟨C, f, _, PySem.W.mg_of X N aC, ⟨mk, a1, i1, kc⟩, fun_mk (st := st) l1 c1 k1⟩
theorem clsA_of {K : PySem.W.Frag} {h : Heap} {mg : Str → Option Value} {x : Str} {l : List Str} (X : K.In h) (N : h.Ns mainGlobals mg) {C : Addr} (aC : PySem.W.nsIn K mainGlobals x = some (some (.ref C)))
    (pg : PySem.W.plainGet K C Str.empty = true) (hd : PySem.W.hasDictIn K C = true) (po : PySem.W.plainOver K C = true) (sa : PySem.W.findIn K (.ref C) "__setattr__" = some (some (.builtin "object.__setattr__")))
    (hl : ∀ f ∈ l, PySem.W.findIn K (.ref C) f = some none) : ClsA ⟨K, mg⟩ x l := ⟨fun C' hm => by
      have e := (PySem.W.mg_of X N aC).symm.trans hm
      cases e
      exact ⟨⟨pg, hd, po, sa⟩, hl⟩⟩
end
section
variable {G : GX} {P : Program} {w : World} {base : Heap}
theorem MkA.of {x qual : Str} {st : Stmt} {N ps : List Str} {k : Nat} {body : SF} (T : ClsF G x qual st) (S : FnScope N ps (defScope st)) (hb : ∀ f fd, Fun G.K "__init__" qual st f fd → Binds G.K fd ps [])
    (h : ∀ (f : Addr) (cdv : Value) (A : Around) (outer : List Env) (s : Shared) (H : Hp) (E : XK),
      Ctx (cxOf (L2.CX P w) P w G.K G.mg base N qual (defScope st) f cdv A outer s H E) (fun C od _ H' => E C od H') k → ASs (cxOf (L2.CX P w) P w G.K G.mg base N qual (defScope st) f cdv A outer s H E) (fun C od _ H' => E C od H') (defBody st) body) :
    MkA G P w base (k + 1) x ps.length (runDef N.length body) := by
  obtain ⟨C, f, fd, hm, M, F⟩ := T
  exact ⟨C, f, fd, ps, FnOk.ofA F S (h f), hm, M, hb f fd F⟩
end
/-! ### a range downwards -/
def rangeS (lo c : Int) (n : Nat) : List D := (List.range n).map fun (i : Nat) => D.int (lo + (i : Int) * c)
theorem rangeS_len (lo c : Int) (n : Nat) : (rangeS lo c n).length = n := by simp [rangeS]
theorem rangeS_get (lo c : Int) (n i : Nat) : (rangeS lo c n)[i]? = if i < n then some (.int (lo + (i : Int) * c)) else none := by
  unfold rangeS
  rw [List.getElem?_map]
  by_cases h : i < n
  · rw [if_pos h, List.getElem?_range h]; rfl
  · rw [if_neg h, List.getElem?_eq_none (by simpa using h)]; rfl
theorem IterR.rngS {G : GX} {μ : List Addr} {H : Hp} {lo c : Int} {n : Nat} : IterR G μ H (rangeS lo c n, []) (Itc lo c n) where
  go := fun μ1 H1 st1 e hs1 _ i hi => by
    have h : i < n := by simpa [rangeS_len] using hi
    exact h
  yld := fun μ1 H1 st1 e hs1 _ i x H2 hi y => by
    obtain ⟨rfl, rfl⟩ := y
    have hi : i < n := by simpa [rangeS_len] using hi
    exact ⟨.int (lo + i * c), by rw [rangeS_get, if_pos hi], .refl, hs1, rfl⟩
  stop := fun μ1 H1 st1 e hs1 _ => by show n ≤ _; simp [rangeS_len]
noncomputable def rngR3 (i j c : Int) (st : Store) : R Its := hid (if c = -1 ∧ -(2 ^ 62) ≤ i ∧ i < 2 ^ 62 ∧ -(2 ^ 62) ≤ j ∧ j < 2 ^ 62 then .ok (rangeS i (-1) (i - j).toNat, []) st else .bad)
noncomputable def iRng3F (fa : LF) : IF := fun env st => (fa env st).bind fun ds st1 => match ds with
  | [.int i, .int j, .int c] => rngR3 i j c st1
  | _ => .bad
section
variable {X : Cx} {W : WX} {tg a b c : Expr} {fa : LF} {pos p : Pos}
theorem ai_range3 (hm : X.mg "range" = none) (ha : AA X W [a, b, c] fa) (hg : Gl X "range" := by rfl)
    (hs : starEach [a, b, c] X.env = (false, eval a X.env) :: starEach [b, c] X.env := by rfl) (hpl : (backTo pos (starEach [b, c] X.env)).any (·.1) = false := by rfl) :
    AI X W tg (.Call (.Name "range" p) [a, b, c] [] pos) (iRng3F fa) :=
  (pi_range3 hg hm ha hs hpl).weak fun σ H Q ⟨μ, env, st, hs, er, q⟩ => ⟨μ, env, st, hs, er, Post.bind q fun ds st1 μ1 H1 vs eq x1 hs' rs p1 => by
    split at p1
    · rename_i i j k
      obtain ⟨v, rest, rfl, rd, v2, rest2, rfl, rd2, v3, rest3, rfl, rd3, e0⟩ := rs
      cases e0; cases rd; cases rd2; cases rd3
      unfold rngR3 at p1
      rw [hid_eq] at p1
      split at p1
      · rename_i h
        obtain ⟨rfl, h1, h2, h3, h4⟩ := h
        exact ⟨i, j, -1, _, rfl, RgC.neg h1 h2 h3 h4, p1 μ1 H1 _ .refl hs' .rngS⟩
      · exact p1.elim
    · exact p1.elim⟩
end
theorem rngR3_eq {i : Int} {n : Nat} {st : Store} (e : i + 1 = n) (h : n ≤ 1000000) : rngR3 i (-1) (-1) st = .ok (rangeS i (-1) n, []) st := by
  have h2 : (2 : Int) ^ 62 = 4611686018427387904 := by decide
  unfold rngR3
  rw [hid_eq, h2]
  have : (-1 : Int) = -1 ∧ -4611686018427387904 ≤ i ∧ i < 4611686018427387904 ∧ -4611686018427387904 ≤ (-1 : Int) ∧ (-1 : Int) < 4611686018427387904 := by omega
  rw [if_pos this]
  have : (i - -1).toNat = n := by omega
  rw [this]
theorem iRng3F_ap (fa : LF) (env : AEnv) (st : Store) : iRng3F fa env st = ((fa env st).bind fun ds st1 => match ds with
  | [.int i, .int j, .int c] => rngR3 i j c st1
  | _ => .bad) := (Eq.refl _).trans rfl
end TK

set_option Elab.async false
set_option linter.all false
set_option maxRecDepth 100000
set_option maxHeartbeats 4000000
namespace TK
open PySem PySem.Spec
open PyProof.Rows hiding St
open L2
/-! # x in l, x not in l: l a list, items plain data -/
def inP (x y : D) (st : Store) : Option Bool := match toP st 50 x, toP st 50 y with
  | some p, some (.list ps) => if SeqAt.shaped p = true ∧ SeqAt.shaped (.list ps) = true then some (ps.any fun z => PyData.eqv z p) else none
  | _, _ => none
def inD (x y : D) (st : Store) : R D := match inP x y st with
  | some b => .ok (.bl b) st
  | none => .bad
def ninD (x y : D) (st : Store) : R D := match inP x y st with
  | some b => .ok (.bl (!b)) st
  | none => .bad
section
variable {G : GX} {μ : List Addr} {H : Hp} {st : Store}
theorem inP_ok (hs : HS G μ H st) {x y : D} {v u : V} {b : Bool} (rx : RelD G μ H x v) (ry : RelD G μ H y u) (e : inP x y st = some b) :
    ∃ d ds, Dp G.K H v d ∧ Dp G.K H u (.list ds) ∧ SeqAt.shaped d = true ∧ SeqAt.shaped (.list ds) = true ∧ (ds.any fun z => PyData.eqv z d) = b := by
  unfold inP at e
  split at e
  · rename_i p q e1 e2
    split at e
    · rename_i h
      cases e
      exact ⟨p, q, toP_ok hs 50 x v p rx e1, toP_ok hs 50 y u _ ry e2, h.1, h.2, rfl⟩
    · cases e
  · cases e
theorem inA : OpA G inD (rInD G.K) := by
  intro W σ μ H st x y v u Q hs rx ry p
  unfold inD at p
  split at p
  · rename_i b e
    obtain ⟨d, e, h1, h2, h3, h4, h5⟩ := inP_ok hs rx ry e
    exact ⟨d, e, h1, h2, h3, h4, by rw [h5]; exact p μ H _ .refl hs rfl⟩
  · exact p.elim
theorem ninA : OpA G ninD (rNotInD G.K) := by
  intro W σ μ H st x y v u Q hs rx ry p
  unfold ninD at p
  split at p
  · rename_i b e
    obtain ⟨d, e, h1, h2, h3, h4, h5⟩ := inP_ok hs rx ry e
    exact ⟨d, e, h1, h2, h3, h4, by rw [h5]; exact p μ H _ .refl hs rfl⟩
  · exact p.elim
end
section
variable {X : Cx} {W : WX} {a b : Expr} {fa fb : EF} {pos : Pos} {lv : Nat}
theorem Room.units65 {k : Nat} {A : Around} (r : Room k A) : A.units + 65 < cLine := by have := r.un; omega
theorem ae_in (cx : Ctx X W lv) (ha : AE X W a fa) (hb : AE X W b fb) (hm : behindInMarks .In b = false := by with_unfolding_all rfl) : AE X W (.Compare a [.In] [b] pos) (e2 inD fa fb) := ae_cmp (op_inD (Room.units65 cx.room)) inA ha hb hm
theorem ae_nin (cx : Ctx X W lv) (ha : AE X W a fa) (hb : AE X W b fb) (hm : behindInMarks .NotIn b = false := by with_unfolding_all rfl) : AE X W (.Compare a [.NotIn] [b] pos) (e2 ninD fa fb) := ae_cmp (op_notInD (Room.units65 cx.room)) ninA ha hb hm
end
end TK

set_option Elab.async false
set_option linter.all false
set_option maxRecDepth 100000
set_option maxHeartbeats 4000000
namespace TK
open PySem PySem.Spec
open PyProof.Rows hiding St
open L2
/-! # in a tuple of flat things; pairs stored; lists times ints; is of flags; name op= int -/
def flatD : D → Bool
  | .non => true
  | .bl _ => true
  | .int _ => true
  | .str _ => true
  | _ => false
def flV : D → V
  | .bl b => .bl b
  | .int i => .int i
  | .str x => .str x
  | _ => .non
section
variable {G : GX} {μ : List Addr} {H : Hp} {st : Store}
theorem flV_ok {d : D} {v : V} (r : RelD G μ H d v) (h : flatD d = true) : v = flV d ∧ flatV v = true := by
  cases d with
  | non => cases r; exact ⟨rfl, rfl⟩
  | bl b => cases r; exact ⟨rfl, rfl⟩
  | int b => cases r; exact ⟨rfl, rfl⟩
  | str b => cases r; exact ⟨rfl, rfl⟩
  | _ => cases h
theorem flVs_ok : ∀ {ds : List D} {vs : List V}, RelDs G μ H ds vs → ds.all flatD = true → vs = ds.map flV ∧ vs.all flatV = true
  | [], _, r, _ => by cases r; exact ⟨rfl, rfl⟩
  | d :: ds, _, r, h => by
    obtain ⟨v, rest, rfl, rd, rs⟩ := r
    rw [List.all_cons, Bool.and_eq_true] at h
    obtain ⟨e1, f1⟩ := flV_ok rd h.1
    obtain ⟨e2, f2⟩ := flVs_ok rs h.2
    exact ⟨by rw [e1, e2]; rfl, by rw [List.all_cons, f1, f2]; rfl⟩
end
def inT (x y : D) : Option Bool := match y with
  | .tup ds => if flatD x = true ∧ ds.all flatD = true then some (inV (flV x) (ds.map flV)) else none
  | _ => none
def inD2 (x y : D) (st : Store) : R D := match inT x y with
  | some b => .ok (.bl b) st
  | none => inD x y st
def ninD2 (x y : D) (st : Store) : R D := match inT x y with
  | some b => .ok (.bl (!b)) st
  | none => ninD x y st
section
variable {G : GX} {μ : List Addr} {H : Hp} {st : Store}
theorem inT_ok {x y : D} {v u : V} {b : Bool} (rx : RelD G μ H x v) (ry : RelD G μ H y u) (e : inT x y = some b) :
    ∃ p xs, u = .ref p ∧ (SqL G.K H p xs ∨ SqT G.K H p xs) ∧ flatV v = true ∧ xs.all flatV = true ∧ inV v xs = b := by
  unfold inT at e
  split at e
  · rename_i ds
    split at e
    · rename_i h
      cases e
      obtain ⟨a, vs, rfl, q, rs⟩ := ry
      obtain ⟨e1, f1⟩ := flV_ok rx h.1
      obtain ⟨e2, f2⟩ := flVs_ok rs h.2
      exact ⟨a, vs, rfl, .inr (.of q), f1, f2, by rw [e1, e2]⟩
    · cases e
  · cases e
theorem in2A : OpA G inD2 (fun x y H Q => rIn G.K false x y H Q ∨ rInD G.K x y H Q) := by
  intro W σ μ H st x y v u Q hs rx ry p
  unfold inD2 at p
  split at p
  · rename_i b e
    obtain ⟨a, xs, h1, h2, h3, h4, h5⟩ := inT_ok rx ry e
    exact .inl ⟨a, xs, h1, h2, h3, h4, by rw [if_neg (by decide), h5]; exact p μ H _ .refl hs rfl⟩
  · exact .inr (inA W σ μ H st x y v u Q hs rx ry p)
theorem nin2A : OpA G ninD2 (fun x y H Q => rIn G.K true x y H Q ∨ rNotInD G.K x y H Q) := by
  intro W σ μ H st x y v u Q hs rx ry p
  unfold ninD2 at p
  split at p
  · rename_i b e
    obtain ⟨a, xs, h1, h2, h3, h4, h5⟩ := inT_ok rx ry e
    exact .inl ⟨a, xs, h1, h2, h3, h4, by rw [if_pos rfl, h5]; exact p μ H _ .refl hs rfl⟩
  · exact .inr (ninA W σ μ H st x y v u Q hs rx ry p)
end
section
variable {X : Cx} {W : WX} {a b : Expr} {fa fb : EF} {pos : Pos} {lv : Nat}
theorem ae_in2 (cx : Ctx X W lv) (ha : AE X W a fa) (hb : AE X W b fb) (hm : behindInMarks .In b = false := by with_unfolding_all rfl) : AE X W (.Compare a [.In] [b] pos) (e2 inD2 fa fb) := ae_cmp (OpR_or op_in_seq (op_inD (Room.units65 cx.room))) in2A ha hb hm
theorem ae_nin2 (cx : Ctx X W lv) (ha : AE X W a fa) (hb : AE X W b fb) (hm : behindInMarks .NotIn b = false := by with_unfolding_all rfl) : AE X W (.Compare a [.NotIn] [b] pos) (e2 ninD2 fa fb) := ae_cmp (OpR_or op_notIn_seq (op_notInD (Room.units65 cx.room))) nin2A ha hb hm
theorem at_in2 (cx : Ctx X W lv) (ha : AE X W a fa) (hb : AE X W b fb) (hm : behindInMarks .In b = false := by with_unfolding_all rfl) : AT X W (.Compare a [.In] [b] pos) (bB (e2 inD2 fa fb)) := at_cmp (OpR_or op_in_seq (op_inD (Room.units65 cx.room))) in2A ha hb hm
theorem at_nin2 (cx : Ctx X W lv) (ha : AE X W a fa) (hb : AE X W b fb) (hm : behindInMarks .NotIn b = false := by with_unfolding_all rfl) : AT X W (.Compare a [.NotIn] [b] pos) (bB (e2 ninD2 fa fb)) := at_cmp (OpR_or op_notIn_seq (op_notInD (Room.units65 cx.room))) nin2A ha hb hm
/-! ## is of flags -/
def isBD (x y : D) (st : Store) : R D := match x, y with
  | .bl i, .bl j => .ok (.bl (decide (i = j))) st
  | _, _ => .bad
def nisBD (x y : D) (st : Store) : R D := match x, y with
  | .bl i, .bl j => .ok (.bl (!decide (i = j))) st
  | _, _ => .bad
theorem isBA {G : GX} : OpA G isBD rIsB := by
  intro W σ μ H st x y v u Q hs rx ry p
  unfold isBD at p
  split at p
  · cases rx; cases ry; exact ⟨_, _, rfl, rfl, p μ H _ .refl hs rfl⟩
  · exact p.elim
theorem nisBA {G : GX} : OpA G nisBD rNotB := by
  intro W σ μ H st x y v u Q hs rx ry p
  unfold nisBD at p
  split at p
  · cases rx; cases ry; exact ⟨_, _, rfl, rfl, p μ H _ .refl hs rfl⟩
  · exact p.elim
theorem ae_isB (ha : AE X W a fa) (hb : AE X W b fb) (hm : behindInMarks .Is b = false := by with_unfolding_all rfl) : AE X W (.Compare a [.Is] [b] pos) (e2 isBD fa fb) := ae_cmp op_isBl isBA ha hb hm
theorem ae_nisB (ha : AE X W a fa) (hb : AE X W b fb) (hm : behindInMarks .IsNot b = false := by with_unfolding_all rfl) : AE X W (.Compare a [.IsNot] [b] pos) (e2 nisBD fa fb) := ae_cmp op_notBl nisBA ha hb hm
theorem at_isB (ha : AE X W a fa) (hb : AE X W b fb) (hm : behindInMarks .Is b = false := by with_unfolding_all rfl) : AT X W (.Compare a [.Is] [b] pos) (bB (e2 isBD fa fb)) := at_cmp op_isBl isBA ha hb hm
theorem at_nisB (ha : AE X W a fa) (hb : AE X W b fb) (hm : behindInMarks .IsNot b = false := by with_unfolding_all rfl) : AT X W (.Compare a [.IsNot] [b] pos) (bB (e2 nisBD fa fb)) := at_cmp op_notBl nisBA ha hb hm
end
/-! ## a, b = x, y -/
def sPar (i j : Nat) (fl : LF) : SF := fun env st => sOf (fl env st) env fun ds st1 => match ds with
  | [x, y] => .next ((env.set i (some x)).set j (some y)) st1
  | _ => .bad
section
variable {X : Cx} {W : WX} {a b e : Expr} {fl : LF} {fo fi fo' fi' fe : EF} {pos : Pos} {lv : Nat}
theorem as_par (c : Ctx X W lv) (i j : Nat) {x y : Str} {px py pt : Pos} {kt k2 pt2} (ha : AA X W [a, b] fl) (hi : X.N[i]? = some x := by rfl) (hj : X.N[j]? = some y := by rfl) (hij : i ≠ j := by decide)
    (hx : X.env.scope.names.lookup x = some .local := by rfl) (hy : X.env.scope.names.lookup y = some .local := by rfl)
    (hw : swappedStores [.Tuple [.Name x px, .Name y py] kt pt] (.Tuple [a, b] k2 pt2) X.env = pure (some [x, y]) := by rfl)
    (hs : swapsWithSole [.Tuple [.Name x px, .Name y py] kt pt] (.Tuple [a, b] k2 pt2) pos.line X.env = pure false := by rfl) :
    AS X W (.Assign [.Tuple [.Name x px, .Name y py] kt pt] (.Tuple [a, b] k2 pt2) pos) (sPar i j fl) :=
  (ps_par c.calm c.nd hi hj hij hx hy ha hw hs).weak fun Dn σ H ⟨μ, env, st, hs, er, p⟩ => ⟨μ, env, st, hs, er, PostS.bind p hs er fun ds st1 μ1 H1 vs _ x1 hs1 r1 p1 => by
    split at p1
    · obtain ⟨v, rest, rfl, rd, v2, rest2, rfl, rd2, e0⟩ := r1
      cases e0
      exact ⟨v, v2, rfl, p1 μ1 H1 _ .refl hs1 (((er.ext hs x1).set rd i).set rd2 j)⟩
    · exact p1.elim⟩
/-! ## o[i], p[j] = e -/
def sSub2 (fo fi fo' fi' fe : EF) : SF := fun env st => sOf (fe env st) env fun d st1 => match d with
  | .tup [y, y'] => sThen (sSub fo fi (eC y) env st1) (sSub fo' fi' (eC y'))
  | _ => .bad
theorem sThen_sOf {α : Type} (r : R α) (env : AEnv) (k : α → Store → RS) (g : SF) : sThen (sOf r env k) g = sOf r env fun x st => sThen (k x st) g := by cases r <;> rfl
theorem sThen_nil (r : RS) : sThen r sNil = r := by cases r <;> rfl
theorem gsub_then {G : GX} {μ : List Addr} {H : Hp} {st : Store} {env : AEnv} {σ : St} {g : SF} {y : D} {v : V} {Dn : Ends} {Q : St → Hp → Prop} (hs : HS G μ H st) (er : EnvR G μ H env σ) (ry : RelD G μ H y v)
    (p : PostS G W μ H (sThen (sSub fo fi (eC y) env st) g) Dn)
    (k : ∀ μ' H' st', Ext μ H μ' H' → HS G μ' H' st' → EnvR G μ' H' env σ → PostS G W μ' H' (g env st') Dn → Q σ H') :
    gSub (tG G W (relD G) fo) (tG G W (relD G) fi) (rSetL) v σ H Q := by
  have e0 : sSub fo fi (eC y) env st = sOf (fo env st) env fun x st2 => sOf (fi env st2) env fun i st3 => match x, i with
    | .ref n, .int k => (match st3[n]? with
      | some (.lst xs) => (match ixN xs.length k with
        | some j => .next env (st3.set n (.lst (xs.set j y)))
        | none => .bad)
      | _ => .bad)
    | _, _ => .bad := rfl
  rw [e0, sThen_sOf] at p
  refine ⟨μ, env, st, hs, er, PostS.bind p hs er fun x st2 μ2 H2 ov _ x2 hs2 r2 p2 => ?_⟩
  rw [sThen_sOf] at p2
  refine ⟨μ2, env, st2, hs2, er.ext hs x2, PostS.bind p2 hs2 (er.ext hs x2) fun i st3 μ3 H3 iv _ x3 hs3 r3 p3 => ?_⟩
  have r2 := RelD.ext hs2 x3 _ _ r2
  have r1 := RelD.ext hs (x2.trans x3) _ _ ry
  have er3 := (er.ext hs x2).ext hs2 x3
  split at p3
  · cases r3
    obtain ⟨a, e1, rfl⟩ := r2
    split at p3
    · rename_i xs e2
      obtain ⟨_, h1, us, rfl, ru⟩ := hs3.obj _ a _ e1 e2
      split at p3
      · rename_i j ej
        have hp := hs3.put (ao := .lst (xs.set j y)) e1 ⟨_, rfl, ru.set j r1⟩
        exact ⟨a, us, _, j, rfl, rfl, h1, by rw [ru.length]; exact ej, k μ3 _ _ ((x2.trans x3).trans (.put e1)) hp (er3.wr (hs3.noTupAt e1)) (PostS.later p3 (.put e1))⟩
      · exact p3.elim
    · exact p3.elim
  · exact p3.elim
theorem as_sub2 {o i o' i' : Expr} {apos apos' pt : Pos} {kt : Nat} (c : Ctx X W lv) (ho : AE X W o fo) (hi : AE X W i fi) (ho' : AE X W o' fo') (hi' : AE X W i' fi') (he : AE X W e fe)
    (ha : ∀ v, assign (.Subscript o i apos) X.env v = (do
      let ov ← holding [v] (eval o X.env)
      let iv ← holding [v, ov] (eval i X.env)
      standAt apos
      holding [v, ov, iv] (setItem ov iv v)
      release [v, ov, iv] []) := by intro _; rfl)
    (ha' : ∀ v, assign (.Subscript o' i' apos') X.env v = (do
      let ov ← holding [v] (eval o' X.env)
      let iv ← holding [v, ov] (eval i' X.env)
      standAt apos'
      holding [v, ov, iv] (setItem ov iv v)
      release [v, ov, iv] []) := by intro _; rfl)
    (n1 : (assignEach [.Subscript o i apos, .Subscript o' i' apos'] X.env).map (·.2) = assign (.Subscript o i apos) X.env :: (assignEach [.Subscript o' i' apos'] X.env).map (·.2) := by rfl)
    (n2 : (assignEach [.Subscript o' i' apos'] X.env).map (·.2) = assign (.Subscript o' i' apos') X.env :: (assignEach [] X.env).map (·.2) := by rfl)
    (hn : (assignEach [.Subscript o i apos, .Subscript o' i' apos'] X.env).length = 2 := by rfl) (hst : (assignEach [.Subscript o i apos, .Subscript o' i' apos'] X.env).findIdx? (·.1) = none := by rfl)
    (hs : swapsWithSole [.Tuple [.Subscript o i apos, .Subscript o' i' apos'] kt pt] e pos.line X.env = pure false := by rfl) (hw : swappedStores [.Tuple [.Subscript o i apos, .Subscript o' i' apos'] kt pt] e X.env = pure none := by rfl)
    (h1 : (assignEach [.Tuple [.Subscript o i apos, .Subscript o' i' apos'] kt pt] X.env).map (·.2) = [assign (.Tuple [.Subscript o i apos, .Subscript o' i' apos'] kt pt) X.env] := by rfl) :
    AS X W (.Assign [.Tuple [.Subscript o i apos, .Subscript o' i' apos'] kt pt] e pos) (sSub2 fo fi fo' fi' fe) :=
  (ps_asg he (pg_tup (n := 2) c.calm (pgs_cons (pg_sub ho hi set_list ha) (pgs_cons (pg_sub ho' hi' set_list ha') pgs_nil n2) n1) hn hst) hs hw h1).weak fun Dn σ H ⟨μ, env, st, hs, er, p⟩ =>
    ⟨μ, env, st, hs, er, PostS.bind p hs er fun d st1 μ1 H1 v _ x1 hs1 r1 p1 => by
      split at p1
      · obtain ⟨a, vs, rfl, q, v1, rest, rfl, rd1, v2, rest2, rfl, rd2, e0⟩ := r1
        cases e0
        refine ⟨a, _, rfl, .of q, rfl, v1, _, rfl, gsub_then hs1 (er.ext hs x1) rd1 p1 fun μ2 H2 st2 x2 hs2 er2 p2 => ⟨v2, _, rfl, ?_⟩⟩
        rw [← sThen_nil (sSub _ _ _ _ _)] at p2
        exact gsub_then hs2 er2 (RelD.ext hs1 x2 _ _ rd2) p2 fun μ3 H3 st3 x3 hs3 er3 p3 => ⟨rfl, p3 μ3 H3 σ .refl hs3 er3⟩
      · exact p1.elim⟩
/-! ## a list times an int -/
def lRep (fl : LF) (fe : EF) : LF := fun env st => (fl env st).bind fun xs st1 => (fe env st1).bind fun d st2 => match d with
  | .int k => if -1000000 ≤ k ∧ k ≤ 1000000 ∧ xs.length * k.toNat ≤ sizeLine then .ok (List.replicate k.toNat xs).flatten st2 else .bad
  | _ => .bad
theorem al_rep (ha : AL X W a fl) (hb : AE X W b fe) : AL X W (.BinOp a .Mult b pos) (lRep fl fe) := (pe_op op_rep ha hb).weak fun σ H Q ⟨μ, env, st, hs, er, p⟩ =>
  ⟨μ, env, st, hs, er, Post.bind0 p fun xs st1 μ1 H1 v _ x1 hs1 r1 p1 => ⟨μ1, env, st1, hs1, er.ext hs x1, by
    cases q : fe env st1 with
    | bad => rw [q] at p1; exact p1
    | exc x s => rw [q] at p1; exact (Post.later (rel := relL (gx X)) (r := .exc x s) (Q := Q) p1 x1)
    | ok d st2 =>
      rw [q, R.bind_ok] at p1
      intro μ2 H2 u x2 hs2 r2
      obtain ⟨a, vs, rfl, h0, hn, ha, rv⟩ := r1
      split at p1
      · rename_i k
        cases r2
        split at p1
        · rename_i hz
          have h63 : (2 : Int) ^ 63 = 9223372036854775808 := by decide
          refine ⟨a, k, vs, rfl, rfl, x2.lst hn ha, by rw [h63]; omega, by rw [h63]; omega, by rw [rv.length]; exact hz.2.2, fun l hl => p1 μ2 _ _ ((x1.trans x2).trans (.new hl)) (hs2.new hl)
            ⟨l, _, rfl, Ext.back (x1.trans x2) .refl (hs2.fresh hl) hl, hs2.fresh hl, upd_same, RelDs.ext hs2 (.new hl) _ _ ((RelDs.ext hs1 x2 _ _ rv).rep _)⟩⟩
        · exact p1.elim
      · exact p1.elim⟩⟩
/-! ## list(range(i, j)) -/
noncomputable def lRng2 (fe fe' : EF) : LF := fun env st => (fe env st).bind fun d st1 => (fe' env st1).bind fun d' st2 => match d, d' with
  | .int i, .int j => hid (if rgOk i j then .ok (rangeD i (j - i).toNat) st2 else .bad)
  | _, _ => .bad
theorem al_listRng2 {a b : Expr} {fe fe' : EF} {p p2 pos2 : Pos} (cx : Ctx X W lv) (hm : X.mg "list" = none) (hm2 : X.mg "range" = none) (ha : AE X W a fe) (hb : AE X W b fe') (hg : Gl X "list" := by rfl) (hg2 : Gl X "range" := by rfl) (na : starEach [a, b] X.env = (false, eval a X.env) :: starEach [b] X.env := by rfl) (nb : starEach [b] X.env = (false, eval b X.env) :: starEach [] X.env := by rfl) (hp : (backTo pos2 (starEach [b] X.env)).any (·.1) = false := by rfl)
    (na2 : starEach [.Call (.Name "range" p2) [a, b] [] pos2] X.env = (false, eval (.Call (.Name "range" p2) [a, b] [] pos2) X.env) :: starEach [] X.env := by rfl) :
    AL X W (.Call (.Name "list" p) [.Call (.Name "range" p2) [a, b] [] pos2] [] pos) (lRng2 fe fe') := (pe_listRg cx.calm hg hm (prg_2 hg2 hm2 ha hb na nb hp) na2).weak fun σ H Q ⟨μ, env, st, hs, er, q⟩ =>
    ⟨μ, env, st, hs, er, Post.bind0 q fun d st1 μ1 H1 v _ x1 hs1 r1 p1 => ⟨μ1, env, st1, hs1, er.ext hs x1, by
      cases q : fe' env st1 with
      | bad => rw [q] at p1; exact p1
      | exc x s => rw [q] at p1; exact (Post.later (rel := relL (gx X)) (r := .exc x s) (Q := Q) p1 x1)
      | ok d' st2 =>
        rw [q, R.bind_ok] at p1
        intro μ2 H2 u x2 hs2 r2
        have r1 := RelD.ext hs1 x2 _ _ r1
        split at p1
        · cases r1; cases r2
          simp only [hid_eq] at p1
          split at p1
          · rename_i h
            exact ⟨_, _, rfl, rfl, h, fun l hl => p1 μ2 _ _ ((x1.trans x2).trans (.new hl)) (hs2.new hl) ⟨l, _, rfl, Ext.back (x1.trans x2) .refl (hs2.fresh hl) hl, hs2.fresh hl, upd_same, rgRel _ _⟩⟩
          · exact p1.elim
        · exact p1.elim⟩⟩
/-! ## name op= int -/
def sAug (i : Nat) (g : Int → Int → Int) (ok : Int → Int → Prop) [∀ x y, Decidable (ok x y)] (fe : EF) : SF := fun env st => match env[i]? with
  | some (some (.int x)) => sOf (fe env st) env fun d st1 => match d with
    | .int y => if ok x y then .next (env.set i (some (.int (g x y)))) st1 else .bad
    | _ => .bad
  | _ => .bad
theorem as_augI {op : Operator} {g : Int → Int → Int} {ok : Int → Int → Prop} [∀ x y, Decidable (ok x y)] {ti : TIp} (c : Ctx X W lv) (i : Nat) {x : Str} {pos' : Pos} (he : AE X W e fe) (hp : PIp X op ti) (ht : ∀ x y H Q, ok x y → Q (.int (g x y)) H → ti (.int x) (.int y) H Q)
    (hi : X.N[i]? = some x := by rfl) (hx : Loc X.env.scope x := by first | exact Or.inl rfl | exact Or.inr rfl) (hf : X.fn x = true ∨ X.env.scope.names.lookup x = some .local := by first | exact .inl rfl | exact .inr rfl) :
    AS X W (.AugAssign (.Name x pos') op e pos) (sAug i g ok fe) := (ps_aug c.nd hi hx he hp hf).weak fun Dn σ H ⟨μ, env, st, hs, er, p⟩ => by
  unfold sAug at p
  split at p
  · rename_i z ez
    obtain ⟨v, e1, rd⟩ := er.2 i _ ez
    cases rd
    refine ⟨_, e1, μ, env, st, hs, er, PostS.bind p hs er fun d st1 μ1 H1 u _ x1 hs1 r1 p1 => ?_⟩
    split at p1
    · cases r1
      split at p1
      · rename_i hz
        exact ht _ _ _ _ hz (p1 μ1 H1 _ .refl hs1 ((er.ext hs x1).set (d := .int _) (v := .int _) rfl i))
      · exact p1.elim
    · exact p1.elim
  · exact p.elim
theorem as_augAdd (c : Ctx X W lv) (i : Nat) {x : Str} {pos' : Pos} (he : AE X W e fe) (hi : X.N[i]? = some x := by rfl) (hx : Loc X.env.scope x := by first | exact Or.inl rfl | exact Or.inr rfl) (hf : X.fn x = true ∨ X.env.scope.names.lookup x = some .local := by first | exact .inl rfl | exact .inr rfl) :
    AS X W (.AugAssign (.Name x pos') .Add e pos) (sAug i (· + ·) (fun _ _ => True) fe) := as_augI c i he ip_add (fun x y H Q _ q => ⟨x, y, rfl, rfl, q⟩) hi hx hf
end
end TK

set_option Elab.async false
set_option linter.all false
set_option maxRecDepth 100000
set_option maxHeartbeats 4000000
namespace TK
open PySem PySem.Spec
open PyProof.Rows hiding St
open L2
/-! # sorted of a tuple of ints -/
section
variable {prog : Program} {w : World} {A : Around} {s : Shared} {E : Value → Shared → Prop}
abbrev gathH (h : Heap) (us : List Value) : Heap := (h.push (seqObj "list" #[] 0)).update h.objs.size (Obj.mapSeq (· ++ us.toArray))
theorem gath_size (h : Heap) (us : List Value) : (gathH h us).objs.size = h.objs.size + 1 := by rw [gathH, Heap.size_update, size_push']
theorem gath_tup {t : Addr} {us : List Value} {Q : List Value → Shared → Prop} (ht : IsTup s.heap t us.toArray) (hz : us.length ≤ sizeLine) (h : Q us { s with heap := gathH s.heap us }) : wpAny (model prog w) A (collect (.ref t)) Q E s := by
  obtain ⟨ob, hob, hcl, m, hda⟩ := ht
  have hnew : (s.heap.push (seqObj "list" #[] 0)).get? s.heap.objs.size = some (seqObj "list" #[] 0) := Heap.get?_push_size _ rfl
  have hold : (s.heap.push (seqObj "list" #[] 0)).get? t = some ob := Heap.get?_push_of_some _ hob
  have htt : (Value.type "tuple" == Value.type "tuple") = true := by rfl
  unfold collect
  refine wpAny_bind (wpAny_runValue (codeAny_builtin entry_proto_collect' (?_ : wpAny _ _ (do again (.builtin "list.__iadd__" ⟨[← newList [], .ref t], []⟩)) _ _ s)))
  refine wpAny_bind (wpAny_newList (wpAny_pure ⟨Code.quiet_builtin _ (by decide +kernel), codeAny_builtin entry_list_iadd' (?_ : wpAny _ _ (Builtin.List.listExtendWith (.ref s.heap.objs.size) (.ref t) (.ref s.heap.objs.size)) _ _ { s with heap := s.heap.push (seqObj "list" #[] 0) })⟩))
  unfold Builtin.List.listExtendWith
  refine wpAny_bind (wpAny_typeOf (T := "tuple") ⟨ob, hold, hcl⟩ ?_)
  rw [if_pos (show _ = true by rw [htt]; simp)]
  refine wpAny_bind (listItems_at hold hda (wpAny_bind (listItems_at (xs := #[]) (n := 0) hnew rfl ?_)))
  rw [if_neg (show ¬ _ from by simp)]
  have hfit : (#[] ++ us.toArray).size ≤ sizeLine + 1 := by simp only [Array.size_append, List.size_toArray, List.length_nil]; omega
  refine wpAny_bind (listUpdate_at (xs := #[]) (n := 0) hnew rfl (wpAny_pure ?_) (Nat.zero_le _) hfit)
  have fin : wpAny (model prog w) A (do
      let o ← load s.heap.objs.size
      match o.data with
      | .seq xs _ => pure xs.toList
      | _ => unsupported "internal:collect") Q E { s with heap := gathH s.heap us } := by
    refine wpAny_bind (wpAny_load (get?_update_seq hnew _) (?_ : wpAny _ _ (pure ((#[] : Array Value) ++ us.toArray).toList) Q E _))
    rw [show ((#[] : Array Value) ++ us.toArray).toList = us from by simp]
    exact wpAny_pure h
  exact fin
theorem sorted_tup {t : Addr} {us : List Value} {lt : Value → Value → Bool} {Q : Value → Shared → Prop} (O : SrtO.Swo lt) (ht : IsTup s.heap t us.toArray) (hz : us.length ≤ sizeLine)
    (hS : 2 ≤ us.length → ∀ (g : Heap) (c : Addr), g.get? c = some (seqObj "list" us.toArray 0) → (∀ b o, s.heap.get? b = some o → b ≠ c ∧ g.get? b = some o) → SrtO.SortableO prog w A.in1.in1 { s with heap := g } c us lt)
    (h : ∀ out : List Value, SrtO.Srtd lt out → SrtO.Stb lt out us → Q (.ref (s.heap.objs.size + 1)) { s with heap := sortedAll s.heap us out.toArray }) : wpAny (model prog w) A (call (.builtin "sorted") [.ref t]) Q E s := by
  have hat : ((gathH s.heap us).push (seqObj "list" us.toArray 0)).get? (s.heap.objs.size + 1) = some (seqObj "list" us.toArray 0) := by
    rw [← gath_size s.heap us]; exact Heap.get?_push_size _ rfl
  have hkp : ∀ b o, s.heap.get? b = some o → b ≠ s.heap.objs.size + 1 ∧ ((gathH s.heap us).push (seqObj "list" us.toArray 0)).get? b = some o := fun b o e => by
    have hb : b < s.heap.objs.size := Heap.lt_size e
    exact ⟨Nat.ne_of_lt (Nat.lt_succ_of_lt hb), Heap.get?_push_of_some _ ((Heap.get?_update_ne _ _ _ _ (Nat.ne_of_lt hb)).trans (Heap.get?_push_of_some _ e))⟩
  refine Calls.call_function_entry kind_sorted plain_sorted entry_sorted (args_sorted1 _) ?_
  unfold Builtin.«sorted»
  refine wpAny_bind (m := checkCount "sorted" 1 1 _) (wpAny_pure (wpAny_bind (gath_tup ht hz (wpAny_bind (wpAny_newList (?_ : wpAny _ _ _ _ _ { s with heap := (gathH s.heap us).push (seqObj "list" us.toArray 0) }) hz)))))
  rw [gath_size]
  exact wpAny_bind (wpAny_holding (wpAny_call_entry slot_list_sort ⟨_, hat, rfl⟩ entry_list_sort (SrtO.list_sort_ord O hat hz (fun h2 => hS h2 _ _ hat hkp) fun out h1 h2 => ⟨_, rfl, wpAny_pure ⟨_, rfl, h out h1 h2⟩⟩) (args_list_sort _)))
end
def rSortedTp (K : PySem.W.Frag) : List V → Hp → VK → Prop := fun vs H Q => ∃ (a : Addr) (ns : List Int), vs = [V.ref a] ∧ (SqL K H a (ns.map V.int) ∨ SqT K H a (ns.map V.int)) ∧
  ∀ (ns' : List Int) (p : Addr), ns'.Perm ns → ns'.Pairwise (· ≤ ·) → H p = none → Q (.ref p) (upd H p (.lst (ns'.map V.int)))
theorem cr_sortedTp {X : Cx} : CallR X (.builtin "sorted") (rSortedTp X.K) := by
  intro pins s σ H vs us Q I r h
  obtain ⟨a, ns, e, hs, q⟩ := h
  rcases hs with hs | hs
  · exact cr_sortedI pins s σ H vs us Q I r ⟨a, ns, e, hs, q⟩
  · subst e
    obtain ⟨its, rv, ht, hz⟩ := I.tuple hs
    rw [Vals.ref1 r]
    have hi := rv.ints
    refine sorted_tup SrtO.swo_int ht (by rw [← rv.length]; exact hz) (fun h2 _ _ _ _ => SrtO.ints_sortable hi h2) fun out h1 h2 => ?_
    obtain ⟨k1, k2, k3⟩ := SrtO.ints_out hi h1 h2
    obtain ⟨ep, he⟩ := PyProof.Rows.sortedAll_at s.heap its out.toArray
    have hl : ((out.map SrtO.iv).map V.int).length ≤ sizeLine := by rw [List.length_map, k2.length_eq]; simpa using hz
    exact ⟨.ref _, upd H (s.heap.objs.size + 1) (.lst ((out.map SrtO.iv).map V.int)), I.laid (t' := s.toks) (fun _ _ => PyProof.Rows.sortedAll_old) (Nat.le_succ _) ⟨hl, out, ep, vals_of_ints k1, he⟩, rfl, q _ _ k2 k3 (I.hok.fresh (Nat.le_succ _))⟩
section
variable {X : Cx} {W : WX} {e : Expr} {fl : LF} {pos : Pos}
theorem sortTpQ {G : GX} : CalQ G (relQ G) (relL G) sortG (rSortedTp G.K) := by
  intro W σ μ0 H0 μ H st ds v Q x hs r p
  obtain ⟨a, vs, rfl, q, rs⟩ := r
  unfold sortG at p
  split at p
  · rename_i ns e
    have hv := intsOf_ok rs e
    refine ⟨a, ns, rfl, by rw [← hv]; exact q.imp id .of, fun ns' l pm so hl => ?_⟩
    have : ns' = sortI ns := sorted_eq (pm.trans (sortI_perm ns).symm) so (sortI_sorted ns)
    subst this
    exact p μ _ _ (x.trans (.new hl)) (hs.new hl) ⟨l, _, rfl, Ext.back x .refl (hs.fresh hl) hl, hs.fresh hl, upd_same, intsRel _⟩
  · exact p.elim
theorem al_sortedT {p : Pos} (hm : X.mg "sorted" = none) (ha : AQ X W e fl) (hg : Gl X "sorted" := by rfl) (he : starEach [e] X.env = (false, eval e X.env) :: starEach [] X.env := by rfl) : AL X W (.Call (.Name "sorted" p) [e] [] pos) (lQ sortG fl) :=
  p_callB cr_sortedTp sortTpQ hm (by decide +kernel) ha hg (he := he)
end
end TK

set_option Elab.async false
set_option linter.all false
set_option maxRecDepth 100000
set_option maxHeartbeats 4000000
namespace TK
open PySem PySem.Spec
open PyProof.Rows hiding St
open L2
/-! # xs[-2::-1] of a list -/
theorem pick_rev2 (its : Array Value) (hn : 1 ≤ its.size) : slicePick its (some (-2)) none (some (-1)) = (its.toList.take (its.size - 1)).reverse.toArray := by
  obtain ⟨m, hm⟩ : ∃ m, its.size = m + 1 := ⟨its.size - 1, by omega⟩
  have hb : sliceBounds (some (-2)) none (some (-1)) (m + 1) = ((m : Int) - 1, -1, -1) := by
    show (max (-1) (min ((-2 : Int) + ((m + 1 : Nat) : Int)) (((m + 1 : Nat) : Int) - 1)), _, _) = _
    have : max (-1 : Int) (min ((-2 : Int) + ((m + 1 : Nat) : Int)) (((m + 1 : Nat) : Int) - 1)) = (m : Int) - 1 := by omega
    rw [this]
    rfl
  have hp := pick_run its 0 m
  have e0 : (List.range m).map (0 + ·) = List.range m := by
    rw [show ((0 + ·) : Nat → Nat) = id from funext fun j => Nat.zero_add j, List.map_id]
  rw [e0, List.drop_zero] at hp
  unfold slicePick
  rw [hm, hb]
  simp only
  rw [PySem.W.krv_sliceRange, PySem.W.krv_range, List.filterMap_reverse, hp]
  rfl
def tRev2 (K : PySem.W.Frag) (te : TE) : TE := fun σ H Q => te σ H fun x H1 => ∃ a xs, x = .ref a ∧ SqL K H1 a xs ∧ 1 ≤ xs.length ∧ ∀ p, H1 p = none → Q (.ref p) (upd H1 p (.lst (xs.take (xs.length - 1)).reverse))
theorem pe_rev2 {X : Cx} {e : Expr} {te : TE} {k k2 : Nat} {p1 p2 p3 p4 p5 pos : Pos} (he : PE X e te) :
    PE X (.Subscript e (.Slice (some (.UnaryOp .USub (.Constant (.int 2) k p1) p2)) none (some (.UnaryOp .USub (.Constant (.int 1) k2 p3) p4)) p5) pos) (tRev2 X.K te) := by
  refine ⟨fun pins s σ H Q I h => ?_⟩
  have cut : ∀ (i : Int) (k : Nat) (p p' : Pos), PO X (some (.UnaryOp .USub (.Constant (.int i) k p) p')) (tPart (tUn (rU fun i => .int (-i)) (tC (.int i)))) := fun i k p p' => po_some (pe_un un_neg pe_int)
  refine Subscript_ (thn (he.run pins s σ H _ I h) fun v s1 ⟨x, H1, J1, r1, a, xs, ex, hx, hn, q⟩ => ?_)
  subst ex
  cases r1
  refine wpAny_Slice (thn ((cut 2 k p1 p2).run pins s1 σ H1 (fun o G => o = some (-2) ∧ G = H1) J1 ⟨2, rfl, -2, rfl, rfl, rfl⟩) fun vl s2 ⟨l, H2, J2, pl, el, e2⟩ => ?_)
  subst el e2
  refine thn (po_none.run pins s2 σ H2 (fun o G => o = none ∧ G = H2) J2 ⟨rfl, rfl⟩) fun vu s3 ⟨u, H3, J3, pu, eu, e3⟩ => ?_
  subst eu e3
  refine thn ((cut 1 k2 p3 p4).run pins s3 σ H3 (fun o G => o = some (-1) ∧ G = H3) J3 ⟨1, rfl, -1, rfl, rfl, rfl⟩) fun vs s4 ⟨o, H4, J4, ps, eo, e4⟩ => ?_
  subst eo e4
  have J5 : Inv X pins σ H4 { s4 with heap := s4.heap.push { cls := .type "slice", data := .fields #[vl, vu, vs] } } := J4.kept (t' := s4.toks) fun b ob w => Heap.get?_push_of_some _ w
  obtain ⟨its, rv, hl, hz⟩ := J5.list hx
  have hlen := rv.length
  refine (?_ : wpAny (model X.prog X.w) X.A (subscriptTail e (.Slice (some (.UnaryOp .USub (.Constant (.int 2) k p1) p2)) none (some (.UnaryOp .USub (.Constant (.int 1) k2 p3) p4)) p5) (.ref a) (.ref s4.heap.objs.size)) (EP X pins σ Q) X.xe { s4 with heap := s4.heap.push { cls := .type "slice", data := .fields #[vl, vu, vs] } })
  refine tail_any (ops := [.ref a, .ref s4.heap.objs.size]) hl.isList.typeIs (PySem.slot_list_getitem.lookup) (wpAny_getItem_list_slice hl.isList (Heap.IsSliceOf.new _ vl vu vs) pl pu ps (by decide) ?_ (by rw [List.size_toArray]; omega)) (by with_unfolding_all rfl)
  have ek : its.toArray.toList.take (its.toArray.size - 1) = its.take (xs.length - 1) := by rw [hlen]; simp
  rw [pick_rev2 _ (by rw [List.size_toArray]; omega), ek]
  exact ⟨.ref _, _, J5.laid (t' := s4.toks) (o := .lst (xs.take (xs.length - 1)).reverse) (fun b ob w => Heap.get?_push_of_some _ w) (Nat.le_refl _) ⟨by rw [List.length_reverse, List.length_take]; omega, _, 0, (rv.take _).reverse, Heap.get?_push_size _ rfl⟩, rfl, q _ (J5.hok.fresh (Nat.le_refl _))⟩
def lRev2 (fe : EF) : LF := fun env st => (fe env st).bind fun x st1 => match x with
  | .ref n => (match seqOf (.ref n) st1 with
    | some ds => if 1 ≤ ds.length then .ok (ds.take (ds.length - 1)).reverse st1 else .bad
    | none => .bad)
  | _ => .bad
theorem RelDs.reverse {G : GX} {μ : List Addr} {H : Hp} : ∀ {ds : List D} {vs : List V}, RelDs G μ H ds vs → RelDs G μ H ds.reverse vs.reverse
  | [], _, r => by cases r; rfl
  | d :: ds, _, r => by
    obtain ⟨v, rest, rfl, rd, rs⟩ := r
    rw [List.reverse_cons, List.reverse_cons]
    exact (RelDs.reverse rs).append ⟨v, [], rfl, rd, rfl⟩
theorem al_rev2 {X : Cx} {W : WX} {e : Expr} {fe : EF} {k k2 : Nat} {p1 p2 p3 p4 p5 pos : Pos} (he : AE X W e fe) :
    AL X W (.Subscript e (.Slice (some (.UnaryOp .USub (.Constant (.int 2) k p1) p2)) none (some (.UnaryOp .USub (.Constant (.int 1) k2 p3) p4)) p5) pos) (lRev2 fe) := (pe_rev2 he).weak fun σ H Q ⟨μ, env, st, hs, er, p⟩ =>
  ⟨μ, env, st, hs, er, Post.bind0 p fun x st1 μ1 H1 v _ x1 hs1 r1 p1 => by
    split at p1
    · rename_i n
      obtain ⟨a, e1, rfl⟩ := r1
      split at p1
      · rename_i ds e2
        obtain ⟨vs, hq, rs⟩ := hs1.seq e1 e2
        split at p1
        · rename_i hn
          refine ⟨a, vs, rfl, hq, by rw [rs.length]; exact hn, fun p hp => p1 μ1 _ _ (x1.trans (.new hp)) (hs1.new hp) ⟨p, _, rfl, Ext.back x1 .refl (hs1.fresh hp) hp, hs1.fresh hp, upd_same, RelDs.ext hs1 (.new hp) _ _ ?_⟩⟩
          have := (rs.take (ds.length - 1)).reverse
          rw [rs.length]
          exact this
        · exact p1.elim
      · exact p1.elim
    · exact p1.elim⟩
@[simp] theorem lRev2_ap0 (fe : EF) (env : AEnv) (st : Store) : lRev2 fe env st = ((fe env st).bind fun x st1 => match x with
  | .ref n => (match seqOf (.ref n) st1 with
    | some ds => if 1 ≤ ds.length then .ok (ds.take (ds.length - 1)).reverse st1 else .bad
    | none => .bad)
  | _ => .bad) := (Eq.refl _).trans rfl
end TK

set_option Elab.async false
set_option linter.all false
set_option maxRecDepth 100000
set_option maxHeartbeats 4000000
namespace TK
open PySem PySem.Spec
open PyProof.Rows hiding St
open L2
/-! # instances: isinstance of the own class, == by an own method -/
/-- two instances of the class at C, compared by its own def -/
def rOwn (C : Addr) (sp : Sp) : R2 := fun x y H Q => ∃ a b dx dy fs gs, x = .ref a ∧ y = .ref b ∧ H a = some (.ins C dx fs) ∧ H b = some (.ins C dy gs) ∧ sp [.ref a, .ref b] H (fun v G => ∃ t : Bool, v = .bl t ∧ Q v G) (fun _ _ _ => False)
theorem op_own {X : Cx} {CX : CXT} {C f : Addr} {fd : FuncData} {ps : List Str} {n : Nat} {sp : Sp} (F : FnOk X.prog X.w X.K X.mg X.base CX n f fd ps sp) (hr : Room n X.A)
    (he : PySem.W.findIn X.K (.ref C) "__eq__" = some (some (.ref f))) (hi : PySem.W.isFn X.K (.ref f) = true) (hb : Binds X.K fd ps []) (hx : Passes CX X (fun _ _ _ => False)) : OpR X (compareOp .Eq) (rOwn C sp) := by
  intro pins s σ H x y v u Q I rx ry ⟨a, b, dx, dy, fs, gs, ex, ey, ha, hb2, hsp⟩
  subst ex; subst ey
  cases rx; cases ry
  obtain ⟨_, K1, _⟩ := ins_get I.hok ha
  obtain ⟨_, K2, _⟩ := ins_get I.hok hb2
  obtain ⟨_, K1, _⟩ := K1.look
  obtain ⟨_, K2, _⟩ := K2.look
  obtain ⟨_, fr⟩ := I.fr
  refine (?_ : wpAny (model X.prog X.w) X.A (richCompare .Eq (.ref a) (.ref b)) (EP X pins σ Q) X.xe s)
  refine PySem.W.cmp_K (tb := .ref C) (op := .Eq) hr.units0 fr I.ok.mod.kin K1 K2.type (by simp [PySem.W.notFirst]) he hi ?_
  have lens : 2 = ps.length := F.len _ _ _ _ hsp
  have rels : Vals [V.ref a, V.ref b] [Value.ref a, Value.ref b] := .cons rfl (.cons rfl .nil)
  have bnd := hb s [.ref a, .ref b] I.kIn (by simpa using lens)
  refine wpAny_call (codeAny_mono (F.run X.A X.stack s H ⟨[.ref a, .ref b], []⟩ _ _ _ _ hr I.env0 (by simpa using bnd) rels hsp) fun r t hq => ?_)
  match r, hq with
  | .error e, hq => exact hx pins σ H s e t I hq
  | .ok (.ret w), hq =>
    obtain ⟨z, G, J, rz, k, ez, q⟩ := I.after hq
    subst ez
    cases rz
    exact ⟨.bl k, G, J, rfl, q⟩
  | .ok .next, hq => exact False.elim hq
  | .ok .brk, hq => exact False.elim hq
  | .ok .cont, hq => exact False.elim hq
/-- the own == of a class of the text -/
structure EqA (G : GX) (P : Program) (w : World) (base : Heap) (k : Nat) (x : Str) (m : List D → Store → R D) : Prop where
  ex : ∃ C f fd ps, FnOk P w G.K G.mg base (L2.CX P w) k f fd ps (spA G m 2) ∧ G.mg x = some (.ref C) ∧ PySem.W.findIn G.K (.ref C) "__eq__" = some (some (.ref f)) ∧ PySem.W.isFn G.K (.ref f) = true ∧ Binds G.K fd ps []
def blR (r : R D) : R D := match r with
  | .ok (.bl b) st => .ok (.bl b) st
  | _ => .bad
noncomputable def eqI (c : Str) (m : List D → Store → R D) (x y : D) (st : Store) : R D := match x, y with
  | .ref n, .ref j => (match st[n]?, st[j]? with
    | some (.ins c1 _), some (.ins c2 _) => if c1 = c ∧ c2 = c then blR (gcR st (m [.ref n, .ref j] st)) else .bad
    | _, _ => eqD (.ref n) (.ref j) st)
  | x, y => eqD x y st
theorem eqIA {G : GX} {c : Str} {m : List D → Store → R D} {C : Addr} (hC : G.mg c = some (.ref C)) : OpA G (eqI c m) (fun x y H Q => rOwn C (spA G m 2) x y H Q ∨ rEqD G.K x y H Q) := by
  intro W σ μ H st x y v u Q hs rx ry p
  unfold eqI at p
  split at p
  · rename_i n j
    split at p
    · rename_i c1 f1 c2 f2 e1 e2
      split at p
      · rename_i hc
        obtain ⟨rfl, rfl⟩ := hc
        obtain ⟨a, ea, rfl⟩ := rx
        obtain ⟨b, eb, rfl⟩ := ry
        obtain ⟨_, h1, C1, dx, vs, rfl, m1, _⟩ := hs.obj n a _ ea e1
        obtain ⟨_, h2, C2, dy, us, rfl, m2, _⟩ := hs.obj j b _ eb e2
        rw [hC] at m1 m2
        cases m1; cases m2
        refine .inl ⟨a, b, dx, dy, vs, us, rfl, rfl, h1, h2, μ, st, [.ref n, .ref j], hs, ⟨_, _, rfl, ⟨a, ea, rfl⟩, _, _, rfl, ⟨b, eb, rfl⟩, rfl⟩, ?_, rfl⟩
        refine Post.gc hs ?_
        revert p
        cases gcR st (m [.ref n, .ref j] st) with
        | ok d st' =>
          intro p
          cases d with
          | bl k => exact fun μ' H' z e hs' r => ⟨k, r, p μ' H' z e hs' r⟩
          | _ => exact p.elim
        | exc x' st' => intro p; exact p.elim
        | bad => intro p; exact p.elim
      · exact p.elim
    · exact .inr (eqA W σ μ H st _ _ v u Q hs rx ry p)
  · exact .inr (eqA W σ μ H st _ _ v u Q hs rx ry p)
section
variable {X : Cx} {W : WX} {a b e : Expr} {fa fb fe : EF} {pos : Pos} {lv k : Nat}
theorem ae_eqI {c : Str} {m : List D → Store → R D} (F : EqA (gx X) X.prog X.w X.base k c m) (cx : Ctx X W lv) (ha : AE X W a fa) (hb : AE X W b fb) (hk : k ≤ lv := by decide) : AE X W (.Compare a [.Eq] [b] pos) (e2 (eqI c m) fa fb) := by
  obtain ⟨C, f, fd, ps, F, hC, h1, h2, h3⟩ := F.ex
  exact ae_cmp (OpR_or (op_own F (cx.room.mono hk) h1 h2 h3 (fun pins σ H s e s' I z => by obtain ⟨_, _, _, _, _, _, _, _, _, _, _, _, z⟩ := z; exact z.elim)) (op_eqD cx.room.units)) (eqIA hC) ha hb (nomark _)
theorem at_eqI {c : Str} {m : List D → Store → R D} (F : EqA (gx X) X.prog X.w X.base k c m) (cx : Ctx X W lv) (ha : AE X W a fa) (hb : AE X W b fb) (hk : k ≤ lv := by decide) : AT X W (.Compare a [.Eq] [b] pos) (bB (e2 (eqI c m) fa fb)) := by
  obtain ⟨C, f, fd, ps, F, hC, h1, h2, h3⟩ := F.ex
  exact at_cmp (OpR_or (op_own F (cx.room.mono hk) h1 h2 h3 (fun pins σ H s e s' I z => by obtain ⟨_, _, _, _, _, _, _, _, _, _, _, _, z⟩ := z; exact z.elim)) (op_eqD cx.room.units)) (eqIA hC) ha hb (nomark _)
/-- what isinstance asks of a class of the text -/
structure InsF (G : GX) (c : Str) : Prop where
  ex : ∃ C, G.mg c = some (.ref C) ∧ Cls G.K C ∧ PySem.W.findIn G.K (.ref C) "__class__" = some (some (.builtin "object.__class__")) ∧ PySem.W.specialIn G.K (.builtin "object.__class__") "__get__" = some (some (.builtin "getset_descriptor.__get__")) ∧
    PySem.W.takesIn G.K (.builtin "object.__class__") = some true ∧ PySem.W.mroIn G.K C (.type "object") = some true ∧ PySem.W.kitOne G.K (.ref C) (.ref C) = some true
def eIsC (c : Str) (fe : EF) : EF := fun env st => (fe env st).bind fun d st1 => match d with
  | .ref n => (match st1[n]? with
    | some (.ins c1 _) => if c1 = c then .ok (.bl true) st1 else .bad
    | _ => .bad)
  | _ => .bad
theorem ae_isC {p p2 : Pos} {c : Str} (J : InsF (gx X) c) (hm : X.mg "isinstance" = none) (ha : AE X W e fe) (hg : Gl X "isinstance" := by rfl) (hx : Gl X c := by rfl) (hd : (c == ("__debug__" : Str)) = false := by decide)
    (he : starEach [e, .Name c p2] X.env = (false, eval e X.env) :: starEach [.Name c p2] X.env := by rfl) (he2 : starEach [.Name c p2] X.env = (false, eval (.Name c p2) X.env) :: starEach [] X.env := by rfl) (hpl : (backTo pos (starEach [.Name c p2] X.env)).any (·.1) = false := by rfl) :
    AE X W (.Call (.Name "isinstance" p) [e, .Name c p2] [] pos) (eIsC c fe) := by
  obtain ⟨C, hC, k1, k2, k3, k4, k5, k6⟩ := J.ex
  exact (pe_callB call_isi hg hm (by decide +kernel) (pa_cons ha (pa_cons (pe_glob (v := .ref C) hx hC (by rfl) hd) pa_nil he2) he) (he := he) (hpl := hpl)).weak fun σ H Q ⟨μ, env, st, hs, er, q⟩ =>
    ⟨μ, env, st, hs, er, Post.bind q fun d st1 μ1 H1 v _ x1 hs1 r1 p1 => by
      split at p1
      · obtain ⟨a, ea, rfl⟩ := r1
        split at p1
        · rename_i c1 f1 e1
          split at p1
          · rename_i hc
            subst hc
            obtain ⟨_, h1, C1, dx, vs, rfl, m1, _⟩ := hs1.obj _ a _ ea e1
            have hC' : (gx X).mg c1 = some (.ref C) := hC
            rw [hC'] at m1
            cases m1
            exact ⟨.ref a, .ref C, .ref C, .ref C, true, rfl, .own C, .base (.ins h1 k1 k2 k3 k4 k5), k6, p1 μ1 H1 _ .refl hs1 rfl⟩
          · exact p1.elim
        · exact p1.elim
      · exact p1.elim⟩
end
/-- the def __eq__ of a class of the text -/
def EqF (G : GX) (x qual : Str) (st : Stmt) : Prop := ∃ C f fd, G.mg x = some (.ref C) ∧ PySem.W.findIn G.K (.ref C) "__eq__" = some (some (.ref f)) ∧ PySem.W.isFn G.K (.ref f) = true ∧ Fun G.K "__eq__" qual st f fd
section
variable {G : GX} {P : Program} {w : World} {base : Heap}
theorem EqA.of {x qual : Str} {st : Stmt} {N ps : List Str} {k : Nat} {body : SF} (T : EqF G x qual st) (S : FnScope N ps (defScope st)) (hp : ps.length = 2) (hb : ∀ f fd, Fun G.K "__eq__" qual st f fd → Binds G.K fd ps [])
    (h : ∀ (f : Addr) (cdv : Value) (A : Around) (outer : List Env) (s : Shared) (H : Hp) (E : XK),
      Ctx (cxOf (L2.CX P w) P w G.K G.mg base N qual (defScope st) f cdv A outer s H E) (fun C od _ H' => E C od H') k → ASs (cxOf (L2.CX P w) P w G.K G.mg base N qual (defScope st) f cdv A outer s H E) (fun C od _ H' => E C od H') (defBody st) body) :
    EqA G P w base (k + 1) x (runDef N.length body) := by
  obtain ⟨C, f, fd, hm, M1, M2, F⟩ := T
  have := FnOk.ofA F S (h f)
  rw [hp] at this
  exact ⟨C, f, fd, ps, this, hm, M1, M2, hb f fd F⟩
end
theorem eqF_of {K : PySem.W.Frag} {h : Heap} {mg : Str → Option Value} {x qual : Str} {st : Stmt} (X : K.In h) (N : h.Ns mainGlobals mg) {C f : Addr} {od an : Option Addr} {sl : Array (Option Value)} {oc kV dc pm cd ct : Value}
    (aC : PySem.W.nsIn K mainGlobals x = some (some (.ref C))) (a1 : PySem.W.findIn K (.ref C) "__eq__" = some (some (.ref f))) (i1 : PySem.W.isFn K (.ref f) = true)
    (l1 : K.lookup f = some ⟨oc, od, .func (PySem.W.fnOf "__eq__" qual (defArgs st) (defBody st) (defScope st) .none kV dc pm an cd ct), sl⟩) (c1 : PySem.W.codeIn K cd qual = true) (k1 : PySem.W.keepIn K (.ref f) = true) : EqF ⟨K, mg⟩ x qual st :=
  ⟨C, f, _, PySem.W.mg_of X N aC, a1, i1, fun_mk (st := st) l1 c1 k1⟩
theorem insF_of {K : PySem.W.Frag} {h : Heap} {mg : Str → Option Value} {x : Str} (X : K.In h) (N : h.Ns mainGlobals mg) {C : Addr} (aC : PySem.W.nsIn K mainGlobals x = some (some (.ref C)))
    (pg : PySem.W.plainGet K C Str.empty = true) (hd : PySem.W.hasDictIn K C = true) (po : PySem.W.plainOver K C = true) (sa : PySem.W.findIn K (.ref C) "__setattr__" = some (some (.builtin "object.__setattr__")))
    (k2 : PySem.W.findIn K (.ref C) "__class__" = some (some (.builtin "object.__class__"))) (k3 : PySem.W.specialIn K (.builtin "object.__class__") "__get__" = some (some (.builtin "getset_descriptor.__get__"))) (k4 : PySem.W.takesIn K (.builtin "object.__class__") = some true)
    (k5 : PySem.W.mroIn K C (.type "object") = some true) (k6 : PySem.W.kitOne K (.ref C) (.ref C) = some true) : InsF ⟨K, mg⟩ x := ⟨C, PySem.W.mg_of X N aC, ⟨pg, hd, po, sa⟩, k2, k3, k4, k5, k6⟩
end TK

set_option Elab.async false
set_option linter.all false
set_option maxRecDepth 100000
set_option maxHeartbeats 4000000
namespace TK
open PySem PySem.Spec
open PyProof.Rows hiding St
open L2
/-! # t[::-1] of a tuple -/
section
variable {prog : Program} {w : World} {A : Around} {s : Shared} {E : Value → Shared → Prop}
theorem back_places (m : Nat) : Builtin.Slice.slicePlaces ((m : Int) - 1) (-1) (-1) = m := by
  unfold Builtin.Slice.slicePlaces
  rw [if_neg (show ¬ ((-1 : Int) > 0) by decide)]
  have e1 : (- -1 : Int) = 1 := by decide
  rw [e1, Int.ediv_one]
  split <;> omega
theorem filterMap_same {α β : Type} {f g : α → Option β} : ∀ {l : List α}, (∀ x ∈ l, f x = g x) → l.filterMap f = l.filterMap g
  | [], _ => rfl
  | x :: xs, h => by
    rw [List.filterMap_cons, List.filterMap_cons, h x (List.mem_cons_self ..), filterMap_same fun y hy => h y (List.mem_cons_of_mem x hy)]
theorem back_pick (xs : Array Value) : (List.range xs.size).filterMap (fun (k : Nat) => xs[(((xs.size : Int) - 1) + (k : Int) * (-1)).toNat]?) = xs.toList.reverse := by
  have e : ∀ k ∈ List.range xs.size, (((xs.size : Int) - 1) + (k : Int) * (-1)).toNat = xs.size - 1 - k := fun k hk => by
    have := List.mem_range.mp hk
    omega
  have e2 : (List.range xs.size).filterMap (fun (k : Nat) => xs[(((xs.size : Int) - 1) + (k : Int) * (-1)).toNat]?) = ((List.range xs.size).map fun k => xs.size - 1 - k).filterMap (xs[·]?) := by
    rw [List.filterMap_map]
    refine filterMap_same fun k hk => ?_
    show xs[_]? = xs[xs.size - 1 - k]?
    rw [e k hk]
  rw [e2, PySem.W.krv_range, List.filterMap_reverse, PySem.W.krv_all]
theorem back_applied {c : Addr} {vl vu vs : Value} {m : Nat} {Q : Int × Int × Nat → Shared → Prop} (hc : s.heap.IsSliceOf c vl vu vs) (pl : IsPart vl none) (pu : IsPart vu none) (ps : IsPart vs (some (-1)))
    (h : Q ((m : Int) - 1, -1, m) s) : wpAny (model prog w) A (Builtin.Slice.sliceApplied (.ref c) (pure (m : Int))) Q E s := by
  obtain ⟨ob, ho, _, hd⟩ := id hc
  unfold Builtin.Slice.sliceApplied Builtin.Slice.sliceFields
  refine wpAny_bind (wpAny_bind (wpAny_field ho hd (x := vl) rfl (wpAny_bind (wpAny_field ho hd (x := vu) rfl (wpAny_bind (wpAny_field ho hd (x := vs) rfl (wpAny_pure (wpAny_bind (HT.slicePart_ ps ?_)))))))))
  refine (?_ : wpAny _ _ (if ((-1 : Int) == 0) = true then _ else _) _ _ s)
  rw [if_neg (show ¬ ((-1 : Int) == 0) = true by decide)]
  refine wpAny_bind (HT.slicePart_ pl (wpAny_bind (HT.slicePart_ pu (wpAny_bind (wpAny_pure (?_ : wpAny _ _ (match Builtin.Slice.sliceAdjust none none (-1) (m : Int) with | (lo, hi) => pure (lo, (-1 : Int), Builtin.Slice.slicePlaces lo hi (-1))) _ _ s))))))
  have ea : Builtin.Slice.sliceAdjust none none (-1) (m : Int) = ((m : Int) - 1, -1) := rfl
  rw [ea]
  refine (?_ : wpAny _ _ (pure ((m : Int) - 1, (-1 : Int), Builtin.Slice.slicePlaces ((m : Int) - 1) (-1) (-1))) _ _ s)
  rw [back_places]
  exact wpAny_pure h
theorem back_tuple {t c : Addr} {us : List Value} {vl vu vs : Value} {Q : Value → Shared → Prop} (ht : IsTup s.heap t us.toArray) (hc : s.heap.IsSliceOf c vl vu vs) (pl : IsPart vl none) (pu : IsPart vu none) (ps : IsPart vs (some (-1))) (hz : us.length ≤ sizeLine)
    (h : Q (.ref s.heap.objs.size) { s with heap := s.heap.push { cls := .type "tuple", data := .seq us.reverse.toArray } }) : wpAny (model prog w) A (getItem (.ref t) (.ref c)) Q E s := by
  obtain ⟨ob, ho, hcl, hd⟩ := id hc
  have hT : s.TypeIs (.ref c) "slice" := ⟨ob, ho, hcl⟩
  have hfit : sizeOk (.seq us.reverse.toArray) := by
    show us.reverse.toArray.size ≤ sizeLine
    rw [List.size_toArray, List.length_reverse]; exact hz
  unfold getItem
  try with_reducible refine wpAny_holding ?_
  first | refine wpAny_bind (wpAny_pure ?_) | skip
  refine wpAny_bind (wpAny_sequenceKey ht.typeIs (by decide) (wpAny_bind (wpAny_callSpecial?_slot (name := Str.ofString "__getitem__") ht.typeIs PyProof.Rows.slot_tuple_getitem (wpAny_call_entry PyProof.Rows.slot_tuple_getitem ht.typeIs entry_tuple_getitem (?_ : wpAny _ _ (Builtin.Tuple.tupleItemsOf (.ref t) >>= _) _ _ s) (args_tuple_getitem _ _)))))
  refine wpAny_bind (tupleItemsOf_ ht (wpAny_bind (wpAny_typeOf hT ?_)))
  rw [if_pos (show _ = true by decide)]
  refine wpAny_bind (back_applied (m := us.toArray.size) hc pl pu ps ?_)
  have hno : ¬ ((((us.toArray.size : Int) - 1) == 0 && (-1 : Int) == 1 && us.toArray.size == us.toArray.size) = true) := by
    intro q
    rw [Bool.and_eq_true, Bool.and_eq_true] at q
    exact absurd q.1.2 (by decide)
  refine (?_ : wpAny _ _ (if (((us.toArray.size : Int) - 1) == 0 && (-1 : Int) == 1 && us.toArray.size == us.toArray.size) = true then _ else _) _ _ s)
  rw [if_neg hno, back_pick]
  first
    | exact wpAny_bind (m := Builtin.Tuple.tupleExact _) (wpAny_newObj_type (wpAny_pure ⟨_, rfl, wpAny_pure h⟩) hfit)
    | exact wpAny_bind (m := Builtin.Tuple.tupleExact _) (wpAny_newObj_type (wpAny_bind (wpAny_pure (wpAny_pure ⟨_, rfl, wpAny_pure h⟩))) hfit)
    | exact wpAny_bind (wpAny_bind (m := Builtin.Tuple.tupleExact _) (wpAny_newObj_type (wpAny_pure (wpAny_pure ⟨_, rfl, wpAny_pure h⟩)) hfit))
    | exact wpAny_bind (wpAny_bind (m := Builtin.Tuple.tupleExact _) (wpAny_newObj_type (wpAny_pure ⟨_, rfl, wpAny_pure h⟩) hfit))
end
def tRevT (K : PySem.W.Frag) (te : TE) : TE := fun σ H Q => te σ H fun x H1 => ∃ a xs, x = .ref a ∧ SqT K H1 a xs ∧ ∀ p, H1 p = none → Q (.ref p) (upd H1 p (.tup xs.reverse))
theorem pe_revT {X : Cx} {e : Expr} {te : TE} {k : Nat} {p1 p2 p3 pos : Pos} (he : PE X e te) : PE X (.Subscript e (.Slice none none (some (.UnaryOp .USub (.Constant (.int 1) k p1) p2)) p3) pos) (tRevT X.K te) := by
  refine ⟨fun pins s σ H Q I h => ?_⟩
  have stp : PO X (some (.UnaryOp .USub (.Constant (.int 1) k p1) p2)) (tPart (tUn (rU fun i => .int (-i)) (tC (.int 1)))) := po_some (pe_un un_neg pe_int)
  refine Subscript_ (thn (he.run pins s σ H _ I h) fun v s1 ⟨x, H1, J1, r1, a, xs, ex, hx, q⟩ => ?_)
  subst ex
  cases r1
  refine wpAny_Slice (thn (po_none.run pins s1 σ H1 (fun o G => o = none ∧ G = H1) J1 ⟨rfl, rfl⟩) fun vl s2 ⟨l, H2, J2, pl, el, e2⟩ => ?_)
  subst el e2
  refine thn (po_none.run pins s2 σ H2 (fun o G => o = none ∧ G = H2) J2 ⟨rfl, rfl⟩) fun vu s3 ⟨u, H3, J3, pu, eu, e3⟩ => ?_
  subst eu e3
  refine thn (stp.run pins s3 σ H3 (fun o G => o = some (-1) ∧ G = H3) J3 ⟨1, rfl, -1, rfl, rfl, rfl⟩) fun vs s4 ⟨o, H4, J4, ps, eo, e4⟩ => ?_
  subst eo e4
  have J5 : Inv X pins σ H4 { s4 with heap := s4.heap.push { cls := .type "slice", data := .fields #[vl, vu, vs] } } := J4.kept (t' := s4.toks) fun b ob w => Heap.get?_push_of_some _ w
  obtain ⟨its, rv, ht, hz⟩ := J5.tuple hx
  refine (?_ : wpAny (model X.prog X.w) X.A (subscriptTail e (.Slice none none (some (.UnaryOp .USub (.Constant (.int 1) k p1) p2)) p3) (.ref a) (.ref s4.heap.objs.size)) (EP X pins σ Q) X.xe { s4 with heap := s4.heap.push { cls := .type "slice", data := .fields #[vl, vu, vs] } })
  refine tail_any (ops := [.ref a, .ref s4.heap.objs.size]) ht.typeIs (PyProof.Rows.slot_tuple_getitem.lookup) (back_tuple ht (Heap.IsSliceOf.new _ vl vu vs) pl pu ps (by rw [← rv.length]; exact hz) ?_) (by with_unfolding_all rfl)
  exact ⟨.ref _, _, J5.laid (t' := s4.toks) (o := .tup xs.reverse) (fun b ob w => Heap.get?_push_of_some _ w) (Nat.le_refl _) ⟨by rw [List.length_reverse]; exact hz, _, rv.reverse, IsTup.new _ _⟩, rfl, q _ (J5.hok.fresh (Nat.le_refl _))⟩
def eRevT (fe : EF) : EF := fun env st => (fe env st).bind fun x st1 => match x with
  | .tup ds => .ok (.tup ds.reverse) st1
  | _ => .bad
theorem ae_revT {X : Cx} {W : WX} {e : Expr} {fe : EF} {k : Nat} {p1 p2 p3 pos : Pos} (he : AE X W e fe) : AE X W (.Subscript e (.Slice none none (some (.UnaryOp .USub (.Constant (.int 1) k p1) p2)) p3) pos) (eRevT fe) := (pe_revT he).weak fun σ H Q ⟨μ, env, st, hs, er, p⟩ =>
  ⟨μ, env, st, hs, er, Post.bind p fun x st1 μ1 H1 v _ x1 hs1 r1 p1 => by
    split at p1
    · obtain ⟨a, vs, rfl, hq, rs⟩ := r1
      exact ⟨a, vs, rfl, .of hq, fun p hp => p1 μ1 _ _ (.new hp) (hs1.new hp) ⟨p, _, rfl, upd_same, RelDs.ext hs1 (.new hp) _ _ rs.reverse⟩⟩
    · exact p1.elim⟩
@[simp] theorem eRevT_ap0 (fe : EF) (env : AEnv) (st : Store) : eRevT fe env st = ((fe env st).bind fun x st1 => match x with
  | .tup ds => .ok (.tup ds.reverse) st1
  | _ => .bad) := (Eq.refl _).trans rfl
end TK

set_option Elab.async false
set_option linter.all false
set_option maxRecDepth 100000
set_option maxHeartbeats 4000000
namespace TK
open PySem PySem.Spec
open PyProof.Rows hiding St
open L2
/-! # dict comprehensions with int and text keys -/
def hasK (k : Key) (kvs : List (D × D)) : Bool := kvs.any fun kv => decide (keyS kv.1 = some k)
def putD (kvs : List (D × D)) (d : D) (k : Key) (v : D) : List (D × D) :=
  if hasK k kvs = true then kvs.map (fun kv => if keyS kv.1 = some k then (kv.1, v) else kv) else kvs ++ [(d, v)]
section
variable {G : GX} {μ : List Addr} {H : Hp}
theorem RelK.length : ∀ {kvs : List (D × D)} {ks : List (Key × V)}, RelK G μ H keyS kvs ks → ks.length = kvs.length
  | [], _, r => by cases r; rfl
  | (k, d) :: kvs, _, r => by obtain ⟨c, v, rest, rfl, _, _, rs⟩ := r; simp [RelK.length rs]
theorem RelK.any {k : Key} : ∀ {kvs : List (D × D)} {ks : List (Key × V)}, RelK G μ H keyS kvs ks → (ks.any fun kv => decide (kv.1 = k)) = hasK k kvs
  | [], _, r => by cases r; rfl
  | (x, d) :: kvs, _, r => by
    obtain ⟨c, v, rest, rfl, ek, _, rs⟩ := r
    have ih := RelK.any (k := k) rs
    unfold hasK at ih ⊢
    rw [List.any_cons, List.any_cons, ih]
    congr 1
    show decide (c = k) = decide (keyS x = some k)
    rw [ek]; simp
theorem RelK.mapv {k : Key} {d : D} {v : V} (rd : RelD G μ H d v) : ∀ {kvs : List (D × D)} {ks : List (Key × V)}, RelK G μ H keyS kvs ks →
    RelK G μ H keyS (kvs.map fun kv => if keyS kv.1 = some k then (kv.1, d) else kv) (ks.map fun kv => if kv.1 = k then (kv.1, v) else kv)
  | [], _, r => by cases r; rfl
  | (x, y) :: kvs, _, r => by
    obtain ⟨c, z, rest, rfl, ek, rz, rs⟩ := r
    have ih := RelK.mapv (k := k) rd rs
    rw [List.map_cons, List.map_cons]
    by_cases h : c = k
    · subst h
      rw [if_pos ek, if_pos rfl]
      exact ⟨c, v, _, rfl, ek, rd, ih⟩
    · rw [if_neg (show ¬ keyS x = some k by rw [ek]; simpa using h), if_neg h]
      exact ⟨c, z, _, rfl, ek, rz, ih⟩
theorem RelK.snoc {k : Key} {x d : D} {v : V} (ek : keyS x = some k) (rd : RelD G μ H d v) : ∀ {kvs : List (D × D)} {ks : List (Key × V)}, RelK G μ H keyS kvs ks →
    RelK G μ H keyS (kvs ++ [(x, d)]) (ks ++ [(k, v)])
  | [], _, r => by cases r; exact ⟨k, v, [], rfl, ek, rd, rfl⟩
  | (y, z) :: kvs, _, r => by
    obtain ⟨c, w, rest, rfl, ec, rz, rs⟩ := r
    exact ⟨c, w, _, rfl, ec, rz, RelK.snoc ek rd rs⟩
theorem RelK.put {k : Key} {x d : D} {v : V} (ek : keyS x = some k) (rd : RelD G μ H d v) {kvs : List (D × D)} {ks : List (Key × V)} (r : RelK G μ H keyS kvs ks) :
    RelK G μ H keyS (putD kvs x k d) (putK ks k v) := by
  unfold putD putK
  rw [r.any]
  by_cases h : hasK k kvs = true
  · rw [if_pos h, if_pos h]; exact r.mapv rd
  · rw [if_neg h, if_neg h]; exact r.snoc ek rd
theorem key_val {x : D} {k : Key} {v : V} (ek : keyS x = some k) (r : RelD G μ H x v) : v = kV k := by
  cases x with
  | int i => cases ek; exact r
  | str s => cases ek; exact r
  | _ => cases ek
theorem RelK.keys : ∀ {kvs : List (D × D)} {ks : List (Key × V)}, RelK G μ H keyS kvs ks → RelDs G μ H (kvs.map (·.1)) (ks.map fun kv => kV kv.1)
  | [], _, r => by cases r; rfl
  | (x, d) :: kvs, _, r => by
    obtain ⟨c, v, rest, rfl, ek, _, rs⟩ := r
    refine ⟨kV c, _, rfl, ?_, RelK.keys rs⟩
    cases x with
    | int i => cases ek; exact rfl
    | str s => cases ek; exact rfl
    | _ => cases ek
end
theorem putD_len (kvs : List (D × D)) (d : D) (k : Key) (v : D) : (putD kvs d k v).length ≤ kvs.length + 1 := by
  unfold putD
  split
  · simp
  · simp
abbrev relKd (G : GX) : RelT (List (D × D)) V := ⟨fun H0 μ H kvs v => ∃ a ks, v = .ref a ∧ H0 a = none ∧ a ∉ μ ∧ H a = some (.dK ks) ∧ RelK G μ H keyS kvs ks, fun x1 x2 ⟨a, vs, e1, e2, e3, e4⟩ => ⟨a, vs, e1, x1.back x2 e3 e2, e3, e4⟩⟩
abbrev KF := AEnv → Store → R (List (D × D))
abbrev AK (X : Cx) (W : WX) (e : Expr) (f : KF) : Prop := PE X e (tG (gx X) W (relKd (gx X)) f)
open Classical in
noncomputable def dcL (t : Tgt) (c : BF) (kf vf : EF) (g : Its) : List D → List (D × D) → AEnv → Store → R (List (D × D))
  | [], acc, _, st => .ok acc st
  | d :: ds, acc, env, st => match asgT t d env with
    | none => .bad
    | some env1 => (c env1 st).bind fun b st1 => if b then (kf env1 st1).bind fun y st2 => (vf env1 st2).bind fun z st3 => (match keyS y with
        | none => .bad
        | some k => if gOK g st3 then dcL t c kf vf g ds (putD acc y k z) env st3 else .bad)
      else (if gOK g st1 then dcL t c kf vf g ds acc env st1 else .bad)
open Classical in
noncomputable def dcF (vs : List Nat) (fi : IF) (t : Tgt) (c : BF) (kf vf : EF) : KF := fun env st => (fi env st).bind fun g st1 => if gOK g st1 ∧ g.1.length ≤ sizeLine then noX (dcL t c kf vf g g.1 [] (wipeE env vs) st1) else .bad
theorem NoTup.dK {H : Hp} {a : Addr} {xs : List (Key × V)} (h : H a = some (.dK xs)) : NoTup H a := .of h (fun _ z => by cases z) (fun _ _ z => by cases z)
theorem Ext.keep {μ μ' : List Addr} {H H' : Hp} (x : Ext μ H μ' H') {a : Addr} {o : HO} (hn : a ∉ μ) (h : H a = some o) : H' a = some o := by
  obtain ⟨ν, rfl, _, k⟩ := x
  exact k a o h hn
section
variable {X : Cx} {W : WX} {kx vx tg iter : Expr} {ifs : List Expr} {scope : Scope} {own : List (Str × Nat)} {pos : Pos} {fi : IF} {t : Tgt} {fc : BF} {kf vf : EF} {lv : Nat}
theorem comp_dk {vs : List Nat} (hv : ∀ i ∈ slotsT t, i ∈ vs) {σ : St} {H : Hp} {Q : VK} (h : tG (gx X) W (relKd (gx X)) (dcF vs fi t fc kf vf) σ H Q) :
    tDc (tG (gx X) W (relI (gx X)) fi) (gT X.K t) (tG (gx X) W0 relB fc) (tG (gx X) W0 (relD (gx X)) kf) (tG (gx X) W0 (relD (gx X)) vf) vs σ H Q := by
  obtain ⟨μ, env, st, hs, er, p⟩ := h
  refine ⟨μ, env, st, hs, er, Post.bind0 p fun g st1 μ1 H1 J _ x1 hs1 ir p1 D hD => ?_⟩
  split at p1
  · rename_i gg
    have hDμ : D ∉ μ1 := hs1.fresh hD
    have hD0 : H D = none := Ext.back x1 .refl hDμ hD
    have whole : ∃ ys stN, dcL t fc kf vf g g.1 [] (wipeE env vs) st1 = .ok ys stN ∧ Post (gx X) W (relKd (gx X)) σ μ H (.ok ys stN) Q := by
      cases q : dcL t fc kf vf g g.1 [] (wipeE env vs) st1 with
      | ok ys stN => rw [q] at p1; exact ⟨ys, stN, rfl, p1⟩
      | exc x s => rw [q] at p1; exact p1.elim
      | bad => rw [q] at p1; exact p1.elim
    obtain ⟨ys, stN, eN, pN⟩ := whole
    refine ⟨fun i m H2 => i + m = g.1.length ∧ ∃ μ2 st2 acc accV, Ext μ1 H1 μ2 H2 ∧ HS (gx X) μ2 H2 st2 ∧ D ∉ μ2 ∧ H2 D = some (.dK accV) ∧ RelK (gx X) μ2 H2 keyS acc accV ∧ acc.length ≤ i ∧ gOK g st2 ∧
        dcL t fc kf vf g (g.1.drop i) acc (wipeE env vs) st2 = .ok ys stN,
      ⟨g.1.length, by omega, μ1, st1, [], [], Ext.new hD, hs1.new hD, hDμ, upd_same, rfl, by simp, gg.1, eN⟩, fun i m H2 w => ?_⟩
    obtain ⟨em, μ2, st2, acc, accV, x2, hs2, hn2, hD2, ra, hl, g2, e2⟩ := w
    by_cases hi : i < g.1.length
    · refine .inr ⟨ir.go μ2 H2 st2 x2 hs2 g2 i hi, fun H' => ∃ m', m' < m ∧ i + 1 + m' = g.1.length ∧ ∃ μ2 st2 acc accV, Ext μ1 H1 μ2 H' ∧ HS (gx X) μ2 H' st2 ∧ D ∉ μ2 ∧ H' D = some (.dK accV) ∧ RelK (gx X) μ2 H' keyS acc accV ∧ acc.length ≤ i + 1 ∧ gOK g st2 ∧
        dcL t fc kf vf g (g.1.drop (i + 1)) acc (wipeE env vs) st2 = .ok ys stN,
        fun H' n => by obtain ⟨m', h1, h2, h3⟩ := n; exact ⟨m', h1, h2, h3⟩, fun x H3 y => ?_⟩
      obtain ⟨d, ed, x3, hs3, rd⟩ := ir.yld μ2 H2 st2 x2 hs2 g2 i x H3 hi y
      have edrop : g.1.drop i = d :: g.1.drop (i + 1) := by
        rw [List.drop_eq_getElem_cons hi]
        rw [List.getElem?_eq_getElem hi] at ed
        cases ed; rfl
      rw [edrop] at e2
      unfold dcL at e2
      split at e2
      · cases e2
      · rename_i env3 e3
        refine gT_ok (G := gx X) t (((er.ext hs x1).wipe vs).ext hs1 (x2.trans x3)) rd e3 fun σ3 er3 hw => ⟨by rw [hw vs hv, wipe_wipe], μ2, env3, st2, hs3, er3, ?_⟩
        cases qc : fc env3 st2 with
        | exc x s => rw [qc] at e2; cases e2
        | bad => rw [qc] at e2; cases e2
        | ok b st4 =>
          rw [qc, R.bind_ok] at e2
          intro μ4 H4 v4 x4 hs4 r4
          have r4 : v4 = b := r4
          subst r4
          have nD : ∀ {μ' : List Addr} {H' : Hp}, Ext μ2 H3 μ' H' → D ∉ μ' ∧ H' D = some (.dK accV) := fun {μ' H'} xe => by
            have h3 := x3.keep hn2 hD2
            refine ⟨?_, xe.keep hn2 h3⟩
            obtain ⟨ν, rfl, f, _⟩ := xe
            intro hm
            rcases List.mem_append.mp hm with z | z
            · exact hn2 z
            · rw [(f D z).1] at h3; cases h3
          cases v4 with
          | false =>
            rw [if_neg (by decide)] at e2 ⊢
            split at e2
            · rename_i g4
              exact ⟨m - 1, by omega, by omega, μ4, st4, acc, accV, (x2.trans x3).trans x4, hs4, (nD x4).1, (nD x4).2, RelK.ext hs2 (x3.trans x4) _ _ ra, by omega, g4, e2⟩
            · cases e2
          | true =>
            rw [if_pos rfl] at e2 ⊢
            refine ⟨μ4, env3, st4, hs4, er3.ext hs3 x4, ?_⟩
            cases qe : kf env3 st4 with
            | exc x s => rw [qe] at e2; cases e2
            | bad => rw [qe] at e2; cases e2
            | ok yd st5 =>
              rw [qe, R.bind_ok] at e2
              intro μ5 H5 v5 x5 hs5 r5
              refine ⟨μ5, env3, st5, hs5, (er3.ext hs3 x4).ext hs4 x5, ?_⟩
              cases qv : vf env3 st5 with
              | exc x s => rw [qv] at e2; cases e2
              | bad => rw [qv] at e2; cases e2
              | ok zd st6 =>
                rw [qv, R.bind_ok] at e2
                intro μ6 H6 v6 x6 hs6 r6
                cases qk : keyS yd with
                | none => rw [qk] at e2; cases e2
                | some k =>
                  rw [qk] at e2
                  simp only at e2
                  split at e2
                  · rename_i g6
                    obtain ⟨nD6, eD6⟩ := nD ((x4.trans x5).trans x6)
                    have ra6 := RelK.ext hs2 (((x3.trans x4).trans x5).trans x6) _ _ ra
                    have hll := ra6.length
                    refine ⟨accV, k, key_val qk r5, eD6, ?_, m - 1, by omega, by omega, μ6, st6, putD acc yd k zd, putK accV k v6, ?_⟩
                    · rw [hll]; exact Nat.lt_of_le_of_lt hl (Nat.lt_of_lt_of_le hi gg.2)
                    · exact ⟨((((x2.trans x3).trans x4).trans x5).trans x6).wr hD, hs6.wr nD6 (.dK eD6), nD6, upd_same, RelK.put qk (RelD.wr (.dK eD6) _ _ r6) (ra6.wr (.dK eD6)), Nat.le_trans (putD_len _ _ _ _) (by omega), g6, e2⟩
                  · cases e2
    · have e0 : i = g.1.length := by omega
      subst e0
      rw [List.drop_length] at e2
      cases e2
      exact .inl ⟨ir.stop μ2 H2 _ x2 hs2 g2, pN μ2 H2 _ (x1.trans x2) hs2 ⟨D, accV, rfl, hD0, hn2, hD2, ra⟩⟩
  · exact p1.elim
theorem ak_comp (c : Ctx X W lv) (hi : AI X W tg iter fi) (own : List (Str × Nat)) (ok : BlkOk X.N X.env.scope scope own)
    (hg : ∀ s H C cl fp, AG (bX X scope s H C cl fp) tg t) (hc : ∀ s H C cl fp, ATs (bX X scope s H C cl fp) W0 ifs fc) (hk : ∀ s H C cl fp, AE (bX X scope s H C cl fp) W0 kx kf) (he : ∀ s H C cl fp, AE (bX X scope s H C cl fp) W0 vx vf)
    (hv : ∀ i ∈ slotsT t, i ∈ own.map (·.2) := by decide) (hs : ∀ x, foldedSetIterable iter X.env x = pure x := by intro _; rfl) : AK X W (.DictComp kx vx [⟨tg, iter, ifs, 0⟩] scope pos) (dcF (own.map (·.2)) fi t fc kf vf) :=
  (pe_dc (g := gT X.K t) (tt := tG (gx X) W0 relB fc) (tk := tG (gx X) W0 (relD (gx X)) kf) (tv := tG (gx X) W0 (relD (gx X)) vf) c.calm c.nd hi ok hg hc hk he hs).weak fun σ H Q h => comp_dk hv h
end
/-! ## list(a new dict) -/
def lKeys (f : KF) : LF := fun env st => (f env st).bind fun kvs st1 => .ok (kvs.map (·.1)) st1
theorem al_keys {X : Cx} {W : WX} {e : Expr} {f : KF} {lv : Nat} {p pos : Pos} (cx : Ctx X W lv) (hm : X.mg "list" = none) (ha : AK X W e f) (hg : Gl X "list" := by rfl) (he : starEach [e] X.env = (false, eval e X.env) :: starEach [] X.env := by rfl) :
    AL X W (.Call (.Name "list" p) [e] [] pos) (lKeys f) := (pe_callTy (call_list_dK cx.calm) hg hm (by decide +kernel) (pa_cons ha pa_nil he) (by decide) (by decide) he rfl).weak fun σ H Q ⟨μ, env, st, hs, er, q⟩ =>
  ⟨μ, env, st, hs, er, Post.bind0 q fun kvs st1 μ1 H1 v _ x1 hs1 r1 p1 => by
    obtain ⟨a, ks, rfl, h0, hn, hk, rs⟩ := r1
    refine ⟨a, ks, rfl, hk, fun l hl => p1 μ1 _ _ (x1.trans (.new hl)) (hs1.new hl) ⟨l, _, rfl, Ext.back x1 .refl (hs1.fresh hl) hl, hs1.fresh hl, upd_same, ?_⟩⟩
    exact RelDs.ext hs1 (.new hl) _ _ rs.keys⟩
end TK

set_option Elab.async false
set_option linter.all false
set_option maxRecDepth 100000
set_option maxHeartbeats 4000000
namespace TK
open PySem PySem.Spec
open PyProof.Rows hiding St
open L2
/-! # xs[::-1] of a list -/
def tRevL (K : PySem.W.Frag) (te : TE) : TE := fun σ H Q => te σ H fun x H1 => ∃ a xs, x = .ref a ∧ SqL K H1 a xs ∧ ∀ p, H1 p = none → Q (.ref p) (upd H1 p (.lst xs.reverse))
theorem pe_revL {X : Cx} {e : Expr} {te : TE} {k : Nat} {p1 p2 p3 pos : Pos} (he : PE X e te) : PE X (.Subscript e (.Slice none none (some (.UnaryOp .USub (.Constant (.int 1) k p1) p2)) p3) pos) (tRevL X.K te) := by
  refine ⟨fun pins s σ H Q I h => ?_⟩
  have stp : PO X (some (.UnaryOp .USub (.Constant (.int 1) k p1) p2)) (tPart (tUn (rU fun i => .int (-i)) (tC (.int 1)))) := po_some (pe_un un_neg pe_int)
  refine Subscript_ (thn (he.run pins s σ H _ I h) fun v s1 ⟨x, H1, J1, r1, a, xs, ex, hx, q⟩ => ?_)
  subst ex
  cases r1
  refine wpAny_Slice (thn (po_none.run pins s1 σ H1 (fun o G => o = none ∧ G = H1) J1 ⟨rfl, rfl⟩) fun vl s2 ⟨l, H2, J2, pl, el, e2⟩ => ?_)
  subst el e2
  refine thn (po_none.run pins s2 σ H2 (fun o G => o = none ∧ G = H2) J2 ⟨rfl, rfl⟩) fun vu s3 ⟨u, H3, J3, pu, eu, e3⟩ => ?_
  subst eu e3
  refine thn (stp.run pins s3 σ H3 (fun o G => o = some (-1) ∧ G = H3) J3 ⟨1, rfl, -1, rfl, rfl, rfl⟩) fun vs s4 ⟨o, H4, J4, ps, eo, e4⟩ => ?_
  subst eo e4
  have J5 : Inv X pins σ H4 { s4 with heap := s4.heap.push { cls := .type "slice", data := .fields #[vl, vu, vs] } } := J4.kept (t' := s4.toks) fun b ob w => Heap.get?_push_of_some _ w
  obtain ⟨its, rv, ht, hz⟩ := J5.list hx
  have hlen := rv.length
  refine (?_ : wpAny (model X.prog X.w) X.A (subscriptTail e (.Slice none none (some (.UnaryOp .USub (.Constant (.int 1) k p1) p2)) p3) (.ref a) (.ref s4.heap.objs.size)) (EP X pins σ Q) X.xe { s4 with heap := s4.heap.push { cls := .type "slice", data := .fields #[vl, vu, vs] } })
  refine tail_any (ops := [.ref a, .ref s4.heap.objs.size]) ht.isList.typeIs (slot_list_getitem.lookup) (wpAny_getItem_list_slice ht.isList (Heap.IsSliceOf.new _ vl vu vs) pl pu ps (by simp) ?_ (by rw [List.size_toArray]; omega)) (by with_unfolding_all rfl)
  rw [PySem.W.krv_pick]
  exact ⟨.ref _, _, J5.laid (t' := s4.toks) (o := .lst xs.reverse) (fun b ob w => Heap.get?_push_of_some _ w) (Nat.le_refl _) ⟨by rw [List.length_reverse]; exact hz, _, 0, rv.reverse, Heap.get?_push_size _ rfl⟩, rfl, q _ (J5.hok.fresh (Nat.le_refl _))⟩
def lRevL (fe : EF) : LF := fun env st => (fe env st).bind fun x st1 => match x with
  | .ref n => (match seqOf (.ref n) st1 with
    | some ds => .ok ds.reverse st1
    | none => .bad)
  | _ => .bad
theorem al_revL {X : Cx} {W : WX} {e : Expr} {fe : EF} {k : Nat} {p1 p2 p3 pos : Pos} (he : AE X W e fe) : AL X W (.Subscript e (.Slice none none (some (.UnaryOp .USub (.Constant (.int 1) k p1) p2)) p3) pos) (lRevL fe) := (pe_revL he).weak fun σ H Q ⟨μ, env, st, hs, er, p⟩ =>
  ⟨μ, env, st, hs, er, Post.bind0 p fun x st1 μ1 H1 v _ x1 hs1 r1 p1 => by
    cases x with
    | ref n =>
      obtain ⟨a, e1, rfl⟩ := r1
      simp only at p1
      split at p1
      · rename_i ds e2
        obtain ⟨vs, hq, rs⟩ := hs1.seq e1 e2
        exact ⟨a, vs, rfl, hq, fun p hp => p1 μ1 _ _ (x1.trans (.new hp)) (hs1.new hp) ⟨p, _, rfl, Ext.back x1 .refl (hs1.fresh hp) hp, hs1.fresh hp, upd_same, RelDs.ext hs1 (.new hp) _ _ rs.reverse⟩⟩
      · exact p1.elim
    | _ => exact p1.elim⟩
@[simp] theorem lRevL_ap (fe : EF) (env : AEnv) (st : Store) : lRevL fe env st = ((fe env st).bind fun x st1 => match x with
  | .ref n => (match seqOf (.ref n) st1 with
    | some ds => .ok ds.reverse st1
    | none => .bad)
  | _ => .bad) := (Eq.refl _).trans rfl
end TK

set_option Elab.async false
set_option linter.all false
set_option maxRecDepth 100000
set_option maxHeartbeats 4000000
namespace TK
open PySem PySem.Spec
open PyProof.Rows hiding St
open L2
/-! # what plain functions answer: the tools -/
/-! ### one step of a plain function -/
/-- a call's result, kept from checks by computing -/
noncomputable def gcH (st : Store) (r : R D) : R D := hid (gcR st r)
open Classical in
noncomputable def okIf {α : Type} (p : Prop) (r : R α) : R α := if p then r else .bad
theorem okIf_pos {α : Type} {p : Prop} (h : p) (r : R α) : okIf p r = r := by unfold okIf; rw [if_pos h]
@[simp] theorem okIf_true {α : Type} (r : R α) : okIf True r = r := okIf_pos trivial r
theorem ite_okIf {α : Type} (p : Prop) [Decidable p] (r : R α) : (if p then r else .bad) = okIf p r := by
  unfold okIf
  by_cases h : p <;> simp [h]
@[simp] theorem runDef_ap (n : Nat) (body : SF) (ds : List D) (st : Store) : runDef n body ds st = (match body (ds.map some ++ List.replicate (n - ds.length) none) st with
  | .next _ st' => .ok .non st'
  | .ret d st' => .ok d st'
  | .exc _ x st' => .exc x st'
  | _ => .bad) := (Eq.refl _).trans rfl
@[simp] theorem sSeq_ap (f g : SF) (env : AEnv) (st : Store) : sSeq f g env st = (sThen (f env st) g) := (Eq.refl _).trans rfl
@[simp] theorem sNil_ap  (env : AEnv) (st : Store) : sNil  env st = (.next env st) := (Eq.refl _).trans rfl
@[simp] theorem sSet_ap (i : Nat) (fe : EF) (env : AEnv) (st : Store) : sSet i fe env st = (sOf (fe env st) env fun d st1 => .next (env.set i (some d)) st1) := (Eq.refl _).trans rfl
@[simp] theorem sDrop_ap (fe : EF) (env : AEnv) (st : Store) : sDrop fe env st = (sOf (fe env st) env fun _ st1 => .next env st1) := (Eq.refl _).trans rfl
@[simp] theorem sRet_ap (fe : EF) (env : AEnv) (st : Store) : sRet fe env st = (sOf (fe env st) env fun d st1 => .ret d st1) := (Eq.refl _).trans rfl
@[simp] theorem sRetN_ap  (env : AEnv) (st : Store) : sRetN  env st = (.ret .non st) := (Eq.refl _).trans rfl
@[simp] theorem sIf_ap (fc : BF) (f g : SF) (env : AEnv) (st : Store) : sIf fc f g env st = (sOf (fc env st) env fun b st1 => if b then f env st1 else g env st1) := (Eq.refl _).trans rfl
@[simp] theorem sBrk_ap  (env : AEnv) (st : Store) : sBrk  env st = (.brk env st) := (Eq.refl _).trans rfl
@[simp] theorem sCont_ap  (env : AEnv) (st : Store) : sCont  env st = (.cont env st) := (Eq.refl _).trans rfl
@[simp] theorem sAsg_ap (t : Tgt) (fe : EF) (env : AEnv) (st : Store) : sAsg t fe env st = (sOf (fe env st) env fun d st1 => match asgT t d env with
  | some env' => .next env' st1
  | none => .bad) := (Eq.refl _).trans rfl
@[simp] theorem eVar_ap (i : Nat) (env : AEnv) (st : Store) : eVar i env st = (match env[i]? with
  | some (some d) => .ok d st
  | _ => .bad) := (Eq.refl _).trans rfl
@[simp] theorem eC_ap (d : D) (env : AEnv) (st : Store) : eC d env st = (.ok d st) := (Eq.refl _).trans rfl
@[simp] theorem e1_ap (g : D → Store → R D) (fa : EF) (env : AEnv) (st : Store) : e1 g fa env st = ((fa env st).bind fun x st1 => g x st1) := (Eq.refl _).trans rfl
@[simp] theorem e2_ap (g : D → D → Store → R D) (fa fb : EF) (env : AEnv) (st : Store) : e2 g fa fb env st = ((fa env st).bind fun x st1 => (fb env st1).bind fun y st2 => g x y st2) := (Eq.refl _).trans rfl
@[simp] theorem eCall_ap (m : List D → Store → R D) (fa : LF) (env : AEnv) (st : Store) : eCall m fa env st = ((fa env st).bind fun ds st1 => gcH st1 (m ds st1)) := by
  unfold eCall gcH
  simp only [hid_eq]
@[simp] theorem lNil_ap  (env : AEnv) (st : Store) : lNil  env st = (.ok [] st) := (Eq.refl _).trans rfl
@[simp] theorem lCons_ap (fa : EF) (fr : LF) (env : AEnv) (st : Store) : lCons fa fr env st = ((fa env st).bind fun d st1 => (fr env st1).bind fun ds st2 => .ok (d :: ds) st2) := (Eq.refl _).trans rfl
@[simp] theorem eAnd_ap (fa fb : EF) (env : AEnv) (st : Store) : eAnd fa fb env st = ((fa env st).bind fun d st1 => match truD d st1 with
  | some true => fb env st1
  | some false => .ok d st1
  | none => .bad) := (Eq.refl _).trans rfl
@[simp] theorem eOr_ap (fa fb : EF) (env : AEnv) (st : Store) : eOr fa fb env st = ((fa env st).bind fun d st1 => match truD d st1 with
  | some false => fb env st1
  | some true => .ok d st1
  | none => .bad) := (Eq.refl _).trans rfl
@[simp] theorem eNot_ap (fa : EF) (env : AEnv) (st : Store) : eNot fa env st = ((fa env st).bind fun d st1 => match truD d st1 with
  | some b => .ok (.bl (!b)) st1
  | none => .bad) := (Eq.refl _).trans rfl
@[simp] theorem eIf_ap (fc : BF) (fa fb : EF) (env : AEnv) (st : Store) : eIf fc fa fb env st = ((fc env st).bind fun b st1 => if b then fa env st1 else fb env st1) := (Eq.refl _).trans rfl
@[simp] theorem bTru_ap (fe : EF) (env : AEnv) (st : Store) : bTru fe env st = ((fe env st).bind fun d st1 => match truD d st1 with
  | some b => .ok b st1
  | none => .bad) := (Eq.refl _).trans rfl
@[simp] theorem bNot_ap (fa : BF) (env : AEnv) (st : Store) : bNot fa env st = ((fa env st).bind fun b st1 => .ok (!b) st1) := (Eq.refl _).trans rfl
@[simp] theorem bAnd_ap (fa fb : BF) (env : AEnv) (st : Store) : bAnd fa fb env st = ((fa env st).bind fun b st1 => if b then fb env st1 else .ok false st1) := (Eq.refl _).trans rfl
@[simp] theorem bOr_ap (fa fb : BF) (env : AEnv) (st : Store) : bOr fa fb env st = ((fa env st).bind fun b st1 => if b then .ok true st1 else fb env st1) := (Eq.refl _).trans rfl
@[simp] theorem bB_ap (fe : EF) (env : AEnv) (st : Store) : bB fe env st = ((fe env st).bind fun d st1 => match d with
  | .bl b => .ok b st1
  | _ => .bad) := (Eq.refl _).trans rfl
@[simp] theorem eIsi_ap (Ts : List String) (fe : EF) (env : AEnv) (st : Store) : eIsi Ts fe env st = ((fe env st).bind fun d st1 => match kindD d st1 with
  | some k => .ok (.bl (subT Ts k)) st1
  | none => .bad) := (Eq.refl _).trans rfl
@[simp] theorem eChain_ap (g g' : D → D → Store → R D) (fa fb fc : EF) (env : AEnv) (st : Store) : eChain g g' fa fb fc env st = ((fa env st).bind fun x st1 => (fb env st1).bind fun y st2 => (g x y st2).bind fun z st3 => match z with
  | .bl true => (fc env st3).bind fun w st4 => g' y w st4
  | .bl false => .ok (.bl false) st3
  | _ => .bad) := (Eq.refl _).trans rfl
@[simp] theorem eTup_ap (fr : LF) (env : AEnv) (st : Store) : eTup fr env st = ((fr env st).bind fun ds st1 => okIf (ds.length ≤ sizeLine) (.ok (.tup ds) st1)) := by first | (simp only [eTup, ite_okIf]; done) | (simp only [eTup, ite_okIf]; rfl)
@[simp] theorem lLst_ap (fr : LF) (env : AEnv) (st : Store) : lLst fr env st = ((fr env st).bind fun ds st1 => okIf (ds.length ≤ sizeLine) (.ok ds st1)) := by first | (simp only [lLst, ite_okIf]; done) | (simp only [lLst, ite_okIf]; rfl)
@[simp] theorem eLst_ap (fl : LF) (env : AEnv) (st : Store) : eLst fl env st = ((fl env st).bind fun ds st1 => .ok (.ref st1.length) (st1 ++ [.lst ds])) := (Eq.refl _).trans rfl
@[simp] theorem lRd_ap (fe : EF) (env : AEnv) (st : Store) : lRd fe env st = ((fe env st).bind fun d st1 => match seqOf d st1 with
  | some ds => .ok ds st1
  | none => .bad) := (Eq.refl _).trans rfl
@[simp] theorem lRef_ap (fe : EF) (env : AEnv) (st : Store) : lRef fe env st = ((fe env st).bind fun d st1 => match d with
  | .ref n => (match st1[n]? with
    | some (.lst ds) => .ok ds st1
    | _ => .bad)
  | _ => .bad) := (Eq.refl _).trans rfl
@[simp] theorem eQ_ap (g : List D → Store → R D) (fl : LF) (env : AEnv) (st : Store) : eQ g fl env st = ((fl env st).bind g) := (Eq.refl _).trans rfl
@[simp] theorem lQ_ap (g : List D → Store → R (List D)) (fl : LF) (env : AEnv) (st : Store) : lQ g fl env st = ((fl env st).bind g) := (Eq.refl _).trans rfl
@[simp] theorem eB_ap (g : List D → Store → R D) (fr : LF) (env : AEnv) (st : Store) : eB g fr env st = ((fr env st).bind g) := (Eq.refl _).trans rfl
@[simp] theorem iSeqF_ap (fe : EF) (env : AEnv) (st : Store) : iSeqF fe env st = ((fe env st).bind fun d st1 => match d with
  | .tup ds => .ok (ds, []) st1
  | .ref n => (match seqOf (.ref n) st1 with
    | some ds => .ok (ds, [(n, ds)]) st1
    | none => .bad)
  | _ => .bad) := (Eq.refl _).trans rfl
@[simp] theorem iLstF_ap (fl : LF) (env : AEnv) (st : Store) : iLstF fl env st = ((fl env st).bind fun ds st1 => .ok (ds, []) st1) := (Eq.refl _).trans rfl
theorem rngR_eq {i j : Int} {n : Nat} {st : Store} (e : j = i + n) (h : n ≤ 1000000) (h0 : -1000000 ≤ i) (h1 : i ≤ 1000000) : rngR i j st = .ok (rangeD i n, []) st := by
  have h2 : (2 : Int) ^ 62 = 4611686018427387904 := by decide
  unfold rngR
  rw [hid_eq, h2]
  have : -4611686018427387904 ≤ i ∧ i < 4611686018427387904 ∧ -4611686018427387904 ≤ j ∧ j < 4611686018427387904 := by omega
  rw [if_pos this]
  have : (j - i).toNat = n := by omega
  rw [this]
theorem rngR1_eq {j : Int} {n : Nat} {st : Store} (e : j = n) (h : n ≤ 1000000) : rngR1 j st = .ok (rangeD 0 n, []) st := by
  have h2 : (2 : Int) ^ 62 = 4611686018427387904 := by decide
  unfold rngR1
  rw [hid_eq, h2]
  have : -4611686018427387904 ≤ j ∧ j < 4611686018427387904 := by omega
  rw [if_pos this]
  have : j.toNat = n := by omega
  rw [this]
theorem rngR_nat {n : Nat} {st : Store} (h : n ≤ 1000000) : rngR1 (n : Int) st = .ok (rangeD 0 n, []) st := rngR1_eq rfl h
theorem rngR_suc {n : Nat} {st : Store} (h : n + 1 ≤ 1000000) : rngR1 ((n : Int) + 1) st = .ok (rangeD 0 (n + 1), []) st := rngR1_eq (by omega) h
@[simp] theorem iRng1F_ap (fa : LF) (env : AEnv) (st : Store) : iRng1F fa env st = ((fa env st).bind fun ds st1 => match ds with
  | [.int j] => rngR1 j st1
  | _ => .bad) := (Eq.refl _).trans rfl
@[simp] theorem iRng2F_ap (fa : LF) (env : AEnv) (st : Store) : iRng2F fa env st = ((fa env st).bind fun ds st1 => match ds with
  | [.int i, .int j] => rngR i j st1
  | _ => .bad) := (Eq.refl _).trans rfl
@[simp] theorem iTupF_ap (fe : EF) (env : AEnv) (st : Store) : iTupF fe env st = ((fe env st).bind fun d st1 => match d with
  | .tup ds => .ok (ds, []) st1
  | _ => .bad) := (Eq.refl _).trans rfl
@[simp] theorem bYes_ap  (env : AEnv) (st : Store) : bYes  env st = (.ok true st) := (Eq.refl _).trans rfl
@[simp] theorem sSub_ap (fo fi fe : EF) (env : AEnv) (st : Store) : sSub fo fi fe env st = (sOf (fe env st) env fun y st1 => sOf (fo env st1) env fun x st2 => sOf (fi env st2) env fun i st3 => match x, i with
  | .ref n, .int k => (match st3[n]? with
    | some (.lst xs) => (match ixN xs.length k with
      | some j => .next env (st3.set n (.lst (xs.set j y)))
      | none => .bad)
    | _ => .bad)
  | _, _ => .bad) := (Eq.refl _).trans rfl
@[simp] theorem eM_ap (ok : D → Store → Bool) (g : D → List D → Store → R D) (fo : EF) (fr : LF) (env : AEnv) (st : Store) : eM ok g fo fr env st = ((fo env st).bind fun x st1 => if ok x st1 then (fr env st1).bind fun ds st2 => g x ds st2 else .bad) := (Eq.refl _).trans rfl
@[simp] theorem extendF_ap (fo : EF) (fl : LF) (env : AEnv) (st : Store) : extendF fo fl env st = ((fo env st).bind fun x st1 => if isLst x st1 then (fl env st1).bind fun ys st2 => match x with
  | .ref n => (match st2[n]? with
    | some (.lst xs) => okIf (xs.length + ys.length ≤ sizeLine) (.ok .non (st2.set n (.lst (xs ++ ys))))
    | _ => .bad)
  | _ => .bad else .bad) := by first | (simp only [extendF, ite_okIf]; done) | (simp only [extendF, ite_okIf]; rfl)
@[simp] theorem eSl_ap (fe : EF) (fl fh : OF) (env : AEnv) (st : Store) : eSl fe fl fh env st = ((fe env st).bind fun x st1 => (fl env st1).bind fun lo st2 => (fh env st2).bind fun hi st3 => match x with
  | .tup ds => .ok (.tup (cutD ds lo hi)) st3
  | _ => .bad) := (Eq.refl _).trans rfl
@[simp] theorem lSl_ap (fe : EF) (fl fh : OF) (env : AEnv) (st : Store) : lSl fe fl fh env st = ((fe env st).bind fun x st1 => (fl env st1).bind fun lo st2 => (fh env st2).bind fun hi st3 => match x with
  | .ref n => (match seqOf (.ref n) st3 with
    | some ds => .ok (cutD ds lo hi) st3
    | none => .bad)
  | _ => .bad) := (Eq.refl _).trans rfl
@[simp] theorem oNone_ap  (env : AEnv) (st : Store) : oNone  env st = (.ok none st) := (Eq.refl _).trans rfl
@[simp] theorem oSome_ap (fe : EF) (env : AEnv) (st : Store) : oSome fe env st = ((fe env st).bind fun d st1 => match d with
  | .int i => .ok (some i) st1
  | _ => .bad) := (Eq.refl _).trans rfl
@[simp] theorem lCat_ap (fl fl' : LF) (env : AEnv) (st : Store) : lCat fl fl' env st = ((fl env st).bind fun xs st1 => (fl' env st1).bind fun ys st2 => okIf (xs.length + ys.length ≤ sizeLine) (.ok (xs ++ ys) st2)) := by first | (simp only [lCat, ite_okIf]; done) | (simp only [lCat, ite_okIf]; rfl)
@[simp] theorem lCatE_ap (fa : EF) (fl : LF) (env : AEnv) (st : Store) : lCatE fa fl env st = ((fa env st).bind fun x st1 => (fl env st1).bind fun ys st2 => match x with
  | .ref n => (match st2[n]? with
    | some (.lst xs) => okIf (xs.length + ys.length ≤ sizeLine) (.ok (xs ++ ys) st2)
    | _ => .bad)
  | _ => .bad) := by first | (simp only [lCatE, ite_okIf]; done) | (simp only [lCatE, ite_okIf]; rfl)
@[simp] theorem sRaise_ap (x : Str) (env : AEnv) (st : Store) : sRaise x env st = (.exc env ⟨x, []⟩ st) := (Eq.refl _).trans rfl
@[simp] theorem iEnumF_ap (fr : LF) (env : AEnv) (st : Store) : iEnumF fr env st = ((fr env st).bind fun ds st1 => match ds with
  | [.tup xs] => .ok (enumFrom 0 xs, []) st1
  | [.ref n] => (match seqOf (.ref n) st1 with
    | some xs => .ok (enumFrom 0 xs, [(n, xs)]) st1
    | none => .bad)
  | _ => .bad) := (Eq.refl _).trans rfl
@[simp] theorem iEnumL_ap (fl : LF) (env : AEnv) (st : Store) : iEnumL fl env st = ((fl env st).bind fun ds st1 => .ok (enumFrom 0 ds, []) st1) := (Eq.refl _).trans rfl
@[simp] theorem iZipA_ap (fr : LF) (env : AEnv) (st : Store) : iZipA fr env st = ((fr env st).bind fun ds st1 => match ds with
  | [.tup xs, .tup ys] => .ok (zipD xs ys, []) st1
  | [.ref n, .ref m] => (match seqOf (.ref n) st1, seqOf (.ref m) st1 with
    | some xs, some ys => .ok (zipD xs ys, [(n, xs), (m, ys)]) st1
    | _, _ => .bad)
  | _ => .bad) := (Eq.refl _).trans rfl
@[simp] theorem lRng1_ap (fe : EF) (env : AEnv) (st : Store) : lRng1 fe env st = ((fe env st).bind fun d st1 => match d with
  | .int j => okIf (rgOk 0 j) (.ok (rangeD 0 j.toNat) st1)
  | _ => .bad) := by first | (simp only [lRng1, hid_eq, ite_okIf]; done) | (simp only [lRng1, hid_eq, ite_okIf]; rfl)
@[simp] theorem eRng1_ap (fe : EF) (env : AEnv) (st : Store) : eRng1 fe env st = ((fe env st).bind fun d st1 => match d with
  | .int j => okIf (rgOk 0 j) (.ok (.tup (rangeD 0 j.toNat)) st1)
  | _ => .bad) := by first | (simp only [eRng1, hid_eq, ite_okIf]; done) | (simp only [eRng1, hid_eq, ite_okIf]; rfl)
@[simp] theorem truD_non (st : Store) : truD .non st = some false := (Eq.refl _).trans rfl
@[simp] theorem truD_bl (b : Bool) (st : Store) : truD (.bl b) st = some b := (Eq.refl _).trans rfl
@[simp] theorem truD_int (i : Int) (st : Store) : truD (.int i) st = some (i != 0) := (Eq.refl _).trans rfl
@[simp] theorem truD_tup (ds : List D) (st : Store) : truD (.tup ds) st = some (!ds.isEmpty) := (Eq.refl _).trans rfl
@[simp] theorem truD_ref (n : Nat) (st : Store) : truD (.ref n) st = (seqOf (.ref n) st).map fun ds => !ds.isEmpty := (Eq.refl _).trans rfl
@[simp] theorem kindD_non (st : Store) : kindD .non st = some "NoneType" := (Eq.refl _).trans rfl
@[simp] theorem kindD_bl (b : Bool) (st : Store) : kindD (.bl b) st = some "bool" := (Eq.refl _).trans rfl
@[simp] theorem kindD_int (b : Int) (st : Store) : kindD (.int b) st = some "int" := (Eq.refl _).trans rfl
@[simp] theorem kindD_str (b : Str) (st : Store) : kindD (.str b) st = some "str" := (Eq.refl _).trans rfl
@[simp] theorem kindD_tup (b : List D) (st : Store) : kindD (.tup b) st = some "tuple" := (Eq.refl _).trans rfl
@[simp] theorem kindD_ref (n : Nat) (st : Store) : kindD (.ref n) st = (match st[n]? with
    | some (.lst _) => some "list"
    | some (.rol _) => some "list"
    | some (.dct _) => some "dict"
    | some (.dcT _) => some "dict"
    | _ => none) := (Eq.refl _).trans rfl
@[simp] theorem subT_nil (k : String) : subT [] k = false := (Eq.refl _).trans rfl
@[simp] theorem subT_cons (T : String) (Ts : List String) (k : String) : subT (T :: Ts) k = ((k == T || (k == "bool" && T == "int")) || subT Ts k) := (Eq.refl _).trans rfl
@[simp] theorem addD_int (i j : Int) (st : Store) : addD (.int i) (.int j) st = .ok (.int (i + j)) st := (Eq.refl _).trans rfl
@[simp] theorem addD_tup (xs ys : List D) (st : Store) : addD (.tup xs) (.tup ys) st = okIf (xs.length + ys.length ≤ sizeLine) (.ok (.tup (xs ++ ys)) st) := by rw [← ite_okIf]; rfl
@[simp] theorem subD_int (i j : Int) (st : Store) : subD (.int i) (.int j) st = .ok (.int (i - j)) st := (Eq.refl _).trans rfl
@[simp] theorem negD_int (i : Int) (st : Store) : negD (.int i) st = .ok (.int (-i)) st := (Eq.refl _).trans rfl
@[simp] theorem mulD_int (i j : Int) (st : Store) : mulD (.int i) (.int j) st = okIf (mulOk i j) (.ok (.int (i * j)) st) := by rw [← ite_okIf]; rfl
@[simp] theorem mulD_tup (xs : List D) (k : Int) (st : Store) : mulD (.tup xs) (.int k) st = okIf (-1000000 ≤ k ∧ k ≤ 1000 ∧ xs.length ≤ 1000) (.ok (.tup (List.replicate k.toNat xs).flatten) st) := by rw [← ite_okIf]; rfl
@[simp] theorem divD_int (i j : Int) (st : Store) : divD (.int i) (.int j) st = okIf (divOk j) (.ok (.int (i / j)) st) := by rw [← ite_okIf]; rfl
@[simp] theorem modD_int (i j : Int) (st : Store) : modD (.int i) (.int j) st = okIf (0 < j) (.ok (.int (i % j)) st) := by rw [← ite_okIf]; rfl
@[simp] theorem intCmp_int (g : Int → Int → Bool) (i j : Int) (st : Store) : intCmp g (.int i) (.int j) st = .ok (.bl (g i j)) st := (Eq.refl _).trans rfl
@[simp] theorem seqOf_tup (ds : List D) (st : Store) : seqOf (.tup ds) st = some ds := (Eq.refl _).trans rfl
@[simp] theorem seqOf_ref (n : Nat) (st : Store) : seqOf (.ref n) st = (match st[n]? with
    | some (.lst ds) => some ds
    | some (.rol ds) => some ds
    | _ => none) := (Eq.refl _).trans rfl
@[simp] theorem lenG_eq (ds : List D) (st : Store) : lenG ds st = .ok (.int ds.length) st := (Eq.refl _).trans rfl
@[simp] theorem tupG_eq (ds : List D) (st : Store) : tupG ds st = .ok (.tup ds) st := (Eq.refl _).trans rfl
@[simp] theorem lstG_eq (ds : List D) (st : Store) : lstG ds st = .ok ds st := (Eq.refl _).trans rfl
@[simp] theorem isND_eq (x : D) (st : Store) : isND x .non st = .ok (.bl (isNonD x)) st := (Eq.refl _).trans rfl
@[simp] theorem notND_eq (x : D) (st : Store) : notND x .non st = .ok (.bl (!isNonD x)) st := (Eq.refl _).trans rfl
@[simp] theorem isNonD_non : isNonD .non = true := (Eq.refl _).trans rfl
@[simp] theorem isNonD_int (i : Int) : isNonD (.int i) = false := (Eq.refl _).trans rfl
@[simp] theorem isNonD_tup (i : List D) : isNonD (.tup i) = false := (Eq.refl _).trans rfl
@[simp] theorem isLst_ref (n : Nat) (st : Store) : isLst (.ref n) st = (match st[n]? with | some (.lst _) => true | _ => false) := (Eq.refl _).trans rfl
@[simp] theorem intG_int (i : Int) (st : Store) : intG [.int i] st = .ok (.int i) st := (Eq.refl _).trans rfl
@[simp] theorem absG_int (i : Int) (st : Store) : absG [.int i] st = .ok (.int (if i < 0 then -i else i)) st := (Eq.refl _).trans rfl
theorem getD_tup (ds : List D) (i : Int) (st : Store) : getD (.tup ds) (.int i) st = (match atI ds i with
        | some d => .ok d st
        | none => .bad) := rfl
theorem getD_ref (n : Nat) (i : Int) (st : Store) : getD (.ref n) (.int i) st = (match seqOf (.ref n) st with
      | some ds => (match atI ds i with
        | some d => .ok d st
        | none => .bad)
      | none => .bad) := rfl
@[simp] theorem asgT_name (i : Nat) (d : D) (env : AEnv) : asgT (.name i) d env = some (env.set i (some d)) := (Eq.refl _).trans rfl
@[simp] theorem asgT_tup (ts : List Tgt) (ds : List D) (env : AEnv) : asgT (.tup ts) (.tup ds) env = asgTs ts ds env := (Eq.refl _).trans rfl
@[simp] theorem asgTs_nil (env : AEnv) : asgTs [] [] env = some env := (Eq.refl _).trans rfl
@[simp] theorem asgTs_cons (t : Tgt) (ts : List Tgt) (d : D) (ds : List D) (env : AEnv) : asgTs (t :: ts) (d :: ds) env = (match asgT t d env with
    | some env' => asgTs ts ds env'
    | none => none) := (Eq.refl _).trans rfl
@[simp] theorem wipeE_nil (env : AEnv) : wipeE env [] = env := (Eq.refl _).trans rfl
@[simp] theorem wipeE_cons (env : AEnv) (v : Nat) (vs : List Nat) : wipeE env (v :: vs) = (wipeE env vs).set v none := (Eq.refl _).trans rfl
section
variable {G : GX} {st st' : Store} {env : AEnv} {n : Nat}
/-! ### calls -/
theorem trim_refl (st : Store) : Trim st st := fun i h => .inl rfl
theorem trim_app (st x : Store) : Trim st (st ++ x) := fun i h => .inl (List.getElem?_append_left h)
theorem gcR_ok {d : D} (x : Store) (h : closed st.length d = true) : gcH st (.ok d (st ++ x)) = .ok d st := by
  unfold gcH
  rw [hid_eq]
  unfold gcR
  simp [trim_app, h]
theorem gcR_same {d : D} (h : closed st.length d = true) : gcH st (.ok d st) = .ok d st := by
  have := gcR_ok (st := st) (d := d) [] h
  simpa using this
@[simp] theorem gcR_int (i : Int) : gcH st (.ok (.int i) st) = .ok (.int i) st := gcR_same rfl
@[simp] theorem gcR_bl (i : Bool) : gcH st (.ok (.bl i) st) = .ok (.bl i) st := gcR_same rfl
@[simp] theorem gcR_non : gcH st (.ok .non st) = .ok .non st := gcR_same rfl
theorem closeds_ints (n : Nat) : ∀ ns : List Int, closeds n (ns.map D.int) = true
  | [] => rfl
  | _ :: ns => by simp [closeds, closed, closeds_ints n ns]
@[simp] theorem gcR_ints (ns : List Int) : gcH st (.ok (.tup (ns.map D.int)) st) = .ok (.tup (ns.map D.int)) st := gcR_same (by simp [closed, closeds_ints])
/-- one object of the store changed -/
theorem gcR_set {d : D} {o : AO} (h : closed st.length d = true) (ho : closedO st.length o = true) : gcH st (.ok d (st.set n o)) = .ok d (st.set n o) := by
  have ht : Trim st (st.set n o) := fun i hi => by
    by_cases e : n = i
    · subst e; exact .inr ⟨o, by simp [hi], ho⟩
    · exact .inl (by simp [List.getElem?_set_ne e])
  have hk : (st.set n o).take st.length = st.set n o := List.take_of_length_le (by simp)
  unfold gcH
  rw [hid_eq]
  unfold gcR
  simp [ht, h, hk]
theorem lDrop_ok {fe : EF} {ds : List D} (e : fe env st = .ok (.ref st.length) (st ++ [.lst ds])) (h : closeds st.length ds = true) : lDrop fe env st = .ok ds st := by
  unfold lDrop
  rw [e]
  simp [trim_app, h]
theorem lDrop_gen {fe : EF} {ds : List D} {k : Nat} {x : Store} (e : fe env st = .ok (.ref k) (st ++ x)) (hk : st.length ≤ k) (h0 : (st ++ x)[k]? = some (.lst ds)) (h : closeds st.length ds = true) : lDrop fe env st = .ok ds st := by
  unfold lDrop
  rw [e]
  simp only
  rw [if_pos ⟨trim_app _ _, hk⟩, h0]
  simp [h]
/-- a call that gives a new list back -/
theorem gcR_new {ds : List D} (x y : Store) (h : closeds st.length ds = true) (k : Nat) (hk : (st ++ x)[k]? = some (.lst ds)) (hk2 : st.length ≤ k) : gcH st (.ok (.ref k) (st ++ x)) = .ok (.ref st.length) (st ++ [.lst ds]) := by
  have hc : closed st.length (.ref k) = false := by simp [closed]; omega
  unfold gcH
  rw [hid_eq]
  unfold gcR
  simp [trim_app, hc, hk, closedO, h]
/-! ### loops -/
theorem loopF_inv {t : Tgt} {body : SF} {g : Its} {ds : List D} (I : Nat → AEnv → Store → Prop)
    (hs : ∀ i d env st, I i env st → ds[i]? = some d → ∃ env1, asgT t d env = some env1 ∧ ∃ e s, (body env1 st = .next e s ∨ body env1 st = .cont e s) ∧ gOK g s ∧ I (i + 1) e s)
    (h0 : I 0 env st) : ∃ e s, loopF t body g ds env st = .next e s ∧ I ds.length e s := by
  have key : ∀ (r : List D) (i : Nat), ds.drop i = r → i + r.length = ds.length → ∀ env st, I i env st → ∃ e s, loopF t body g r env st = .next e s ∧ I ds.length e s := by
    intro r
    induction r with
    | nil =>
      intro i hd hl env st hi
      have e : i = ds.length := by simpa using hl
      exact ⟨env, st, by simp [loopF], e ▸ hi⟩
    | cons d r ih =>
      intro i hd hl env st hi
      have hd0 : ds[i]? = some d := by
        have : (ds.drop i)[0]? = some d := by rw [hd]; rfl
        simpa using this
      obtain ⟨env1, ea, e, s, hb, hg, hI⟩ := hs i d env st hi hd0
      obtain ⟨e', s', h1, h2⟩ := ih (i + 1) (by rw [← List.drop_drop, hd]; rfl) (by simp at hl; omega) e s hI
      refine ⟨e', s', ?_, h2⟩
      rcases hb with hb | hb
      · simp [loopF, ea, hb, hg, h1]
      · simp [loopF, ea, hb, hg, h1]
  exact key ds 0 rfl (by simp) env st h0
theorem loopF_next {t : Tgt} {body : SF} {g : Its} {ds : List D} {r : RS} (hr : loopF t body g ds env st = r) (I : Nat → AEnv → Store → Prop) (h0 : I 0 env st)
    (hs : ∀ i d env st, I i env st → ds[i]? = some d → ∃ env1, asgT t d env = some env1 ∧ ∃ e s, (body env1 st = .next e s ∨ body env1 st = .cont e s) ∧ gOK g s ∧ I (i + 1) e s) : ∃ e s, r = .next e s ∧ I ds.length e s := by
  subst hr
  exact loopF_inv I hs h0
open Classical in
@[simp] theorem sFor_ap (t : Tgt) (fi : IF) (body : SF) (e_ : AEnv) (st_ : Store) : sFor t fi body e_ st_ = sOf (fi e_ st_) e_ fun g st1 => if gOK g st1 then loopF t body g g.1 e_ st1 else .bad := by
  unfold sFor
  rfl
theorem compL_inv {t : Tgt} {c : BF} {elt : EF} {g : Its} {ds : List D} (I : Nat → List D → Store → Prop)
    (hs : ∀ i d acc st, I i acc st → ds[i]? = some d → ∃ env1, asgT t d env = some env1 ∧ ((∃ y s1 s2, c env1 st = .ok true s1 ∧ elt env1 s1 = .ok y s2 ∧ gOK g s2 ∧ I (i + 1) (acc ++ [y]) s2) ∨ ∃ s1, c env1 st = .ok false s1 ∧ gOK g s1 ∧ I (i + 1) acc s1))
    (h0 : I 0 [] st) : ∃ ys s, compL t c elt g ds env st = .ok ys s ∧ I ds.length ys s := by
  have key : ∀ (r : List D) (i : Nat), ds.drop i = r → i + r.length = ds.length → ∀ acc st, I i acc st → ∃ ys s, compL t c elt g r env st = .ok ys s ∧ I ds.length (acc ++ ys) s := by
    intro r
    induction r with
    | nil =>
      intro i hd hl acc st hi
      have e : i = ds.length := by simpa using hl
      exact ⟨[], st, by simp [compL], by simpa using e ▸ hi⟩
    | cons d r ih =>
      intro i hd hl acc st hi
      have hd0 : ds[i]? = some d := by
        have : (ds.drop i)[0]? = some d := by rw [hd]; rfl
        simpa using this
      obtain ⟨env1, ea, hb⟩ := hs i d acc st hi hd0
      rcases hb with ⟨y, s1, s2, h1, h2, hg, hI⟩ | ⟨s1, h1, hg, hI⟩
      · obtain ⟨ys, s', h3, h4⟩ := ih (i + 1) (by rw [← List.drop_drop, hd]; rfl) (by simp at hl; omega) _ s2 hI
        exact ⟨y :: ys, s', by simp [compL, ea, h1, h2, hg, h3], by simpa using h4⟩
      · obtain ⟨ys, s', h3, h4⟩ := ih (i + 1) (by rw [← List.drop_drop, hd]; rfl) (by simp at hl; omega) _ s1 hI
        exact ⟨ys, s', by simp [compL, ea, h1, hg, h3], h4⟩
  obtain ⟨ys, s, h1, h2⟩ := key ds 0 rfl (by simp) [] st h0
  exact ⟨ys, s, h1, by simpa using h2⟩
theorem compL_map {t : Tgt} {c : BF} {elt : EF} {g : Its} (p : D → Bool) (f : D → D) (hg : gOK g st) : ∀ ds : List D,
    (∀ d ∈ ds, ∃ env1, asgT t d env = some env1 ∧ c env1 st = .ok (p d) st ∧ (p d = true → elt env1 st = .ok (f d) st)) → compL t c elt g ds env st = .ok ((ds.filter p).map f) st
  | [], _ => by simp [compL]
  | d :: ds, h => by
    obtain ⟨env1, h1, h2, h3⟩ := h d List.mem_cons_self
    have ih := compL_map (t := t) (c := c) (elt := elt) p f hg ds fun x hx => h x (List.mem_cons_of_mem _ hx)
    cases q : p d with
    | true => simp [compL, h1, h2, q, h3 q, hg, ih]
    | false => simp [compL, h1, h2, q, hg, ih]
theorem compL_ok {t : Tgt} {c : BF} {elt : EF} {g : Its} {ds : List D} {r : R (List D)} (hr : compL t c elt g ds env st = r) (I : Nat → List D → Store → Prop) (h0 : I 0 [] st)
    (hs : ∀ i d acc st, I i acc st → ds[i]? = some d → ∃ env1, asgT t d env = some env1 ∧ ((∃ y s1 s2, c env1 st = .ok true s1 ∧ elt env1 s1 = .ok y s2 ∧ gOK g s2 ∧ I (i + 1) (acc ++ [y]) s2) ∨ ∃ s1, c env1 st = .ok false s1 ∧ gOK g s1 ∧ I (i + 1) acc s1)) :
    ∃ ys s, r = .ok ys s ∧ I ds.length ys s := by
  subst hr
  exact compL_inv I hs h0
theorem compL_mapE {t : Tgt} {c : BF} {elt : EF} {g : Its} {ds : List D} {r : R (List D)} (hr : compL t c elt g ds env st = r) (hg : gOK g st) (p : D → Bool) (f : D → D)
    (h : ∀ d ∈ ds, ∃ env1, asgT t d env = some env1 ∧ c env1 st = .ok (p d) st ∧ (p d = true → elt env1 st = .ok (f d) st)) : r = .ok ((ds.filter p).map f) st := by
  subst hr
  exact compL_map p f hg ds h
open Classical in
@[simp] theorem compF_ap (vs : List Nat) (fi : IF) (t : Tgt) (c : BF) (elt : EF) (e_ : AEnv) (st_ : Store) :
    compF vs fi t c elt e_ st_ = (fi e_ st_).bind fun g st1 => okIf (gOK g st1 ∧ g.1.length ≤ sizeLine) (noX (compL t c elt g g.1 (wipeE e_ vs) st1)) := by
  unfold compF
  simp only [ite_okIf]
@[simp] theorem rangeD_lenS (lo : Int) (n : Nat) : (rangeD lo n).length = n := by simp [rangeD]
theorem rangeD_mem {lo : Int} {n : Nat} {d : D} (h : d ∈ rangeD lo n) : ∃ i, i < n ∧ d = .int (lo + i) := by
  unfold rangeD at h
  obtain ⟨i, h1, h2⟩ := List.mem_map.mp h
  exact ⟨i, List.mem_range.mp h1, h2.symm⟩
theorem szl {n : Nat} (h : n ≤ 1000000) : n ≤ sizeLine := Nat.le_trans h (by decide)
/-! ### comparing -/
mutual
/-- no list, no instance in it -/
def plainD : Nat → D → Bool
  | _, .non => true
  | _, .bl _ => true
  | _, .int _ => true
  | _, .str _ => true
  | 0, .tup _ => false
  | k + 1, .tup ds => plainDs k ds
  | _, .ref _ => false
  | _, .cls _ => false
def plainDs : Nat → List D → Bool
  | _, [] => true
  | k, d :: ds => plainD k d && plainDs k ds
end
def pyI (ns : List Int) : List PyData := ns.map PyData.int
theorem toPws_ints (f : Nat → Option PyData) : ∀ ns : List Int, toPws f (ns.map D.int) = some (pyI ns)
  | [] => rfl
  | n :: ns => by simp [toPws, toPw, toPws_ints f ns, pyI]
theorem toP_int (i : Int) : toP st 50 (.int i) = some (.int i) := rfl
theorem toP_bl (i : Bool) : toP st 50 (.bl i) = some (.bool i) := rfl
theorem toP_ints (ns : List Int) : toP st 50 (.tup (ns.map D.int)) = some (.tuple (pyI ns)) := by
  show (toPws _ (ns.map D.int)).map PyData.tuple = _
  rw [toPws_ints]; rfl
theorem shaped_int (i : Int) : SeqAt.shaped (.int i) = true := rfl
theorem shaped_bl (i : Bool) : SeqAt.shaped (.bool i) = true := rfl
theorem beq_dec (i j : Int) : (i == j) = decide (i = j) := by
  by_cases h : i = j <;> simp [h]
@[simp] theorem eqD_int (i j : Int) : eqD (.int i) (.int j) st = .ok (.bl (decide (i = j))) st := by
  unfold eqD eqP
  rw [toP_int, toP_int]
  simp [shaped_int, PyData.eqv, beq_dec]
@[simp] theorem neD_int (i j : Int) : neD (.int i) (.int j) st = .ok (.bl (decide (i ≠ j))) st := by
  unfold neD eqP
  rw [toP_int, toP_int]
  simp [shaped_int, PyData.eqv, beq_dec]
@[simp] theorem eqD_bl (i j : Bool) : eqD (.bl i) (.bl j) st = .ok (.bl (i == j)) st := by
  unfold eqD eqP
  rw [toP_bl, toP_bl]
  simp [shaped_bl, PyData.eqv, beq_dec]
@[simp] theorem neD_bl (i j : Bool) : neD (.bl i) (.bl j) st = .ok (.bl (i != j)) st := by
  unfold neD eqP
  rw [toP_bl, toP_bl]
  simp [shaped_bl, PyData.eqv, beq_dec]
  cases i <;> cases j <;> rfl
theorem getD_at {ds : List D} {k : Nat} {d : D} (h : ds[k]? = some d) : getD (.tup ds) (.int (k : Int)) st = .ok d st := by
  rw [getD_tup, atI_nat h]
theorem getq {xs : List Int} {i : Nat} {d : D} (h : (xs.map D.int)[i]? = some d) : ∃ x, d = .int x ∧ xs[i]? = some x ∧ xs.drop i = x :: xs.drop (i + 1) := by
  rw [List.getElem?_map] at h
  cases q : xs[i]? with
  | none => rw [q] at h; cases h
  | some x =>
    rw [q] at h
    cases h
    obtain ⟨hi, e⟩ := List.getElem?_eq_some_iff.mp q
    exact ⟨x, rfl, rfl, by rw [List.drop_eq_getElem_cons hi, e]⟩
theorem getD_i {xs : List Int} {k : Nat} {j : Int} (e : j = k) (h : k < xs.length) : getD (.tup (xs.map D.int)) (.int j) st = .ok (.int (xs.getD k 0)) st := by
  subst e
  refine getD_at ?_
  rw [List.getElem?_map, List.getElem?_eq_getElem h, List.getD_eq_getElem?_getD, List.getElem?_eq_getElem h]
  rfl
theorem getD_l {xs : List Int} {n : Nat} (h : xs.length = n + 1) : getD (.tup (xs.map D.int)) (.int (-1)) st = .ok (.int (xs.getD n 0)) st := by
  obtain ⟨ys, y, rfl⟩ : ∃ ys y, xs = ys ++ [y] := ⟨xs.dropLast, xs.getLast (by intro z; rw [z] at h; cases h), (List.dropLast_concat_getLast _).symm⟩
  have hn : n = ys.length := by simp at h; omega
  subst hn
  rw [getD_tup, List.map_append, List.map_singleton, atI_last]
  simp
theorem map_true (f : D → D) (l : List D) : (l.filter fun d => true).map f = l.map f := by rw [List.filter_eq_self.mpr (fun _ _ => rfl)]
theorem filter_ints (p : Int → Bool) (q : D → Bool) (h : ∀ i, q (.int i) = p i) : ∀ xs : List Int, (xs.map D.int).filter q = (xs.filter p).map D.int
  | [] => rfl
  | x :: xs => by
    have ih := filter_ints p q h xs
    simp only [List.map_cons, List.filter_cons, h, ih]
    by_cases e : p x = true <;> simp [e]
def ltI (d : D) (b : D) : Bool := match d, b with | .int i, .int j => decide (i < j) | _, _ => false
def intOf (d : D) : Int := match d with | .int i => i | _ => 0
theorem depthAll_ints : ∀ ns : List Int, PyData.depthAll (pyI ns) = 0
  | [] => rfl
  | n :: ns => by
    show max _ (PyData.depthAll (pyI ns)) = 0
    rw [depthAll_ints ns]; rfl
theorem canLay_ints : ∀ ns : List Int, PyData.canLayAll0 (pyI ns) = true
  | [] => rfl
  | n :: ns => by
    show (_ && PyData.canLayAll0 (pyI ns)) = true
    rw [canLay_ints ns]; rfl
theorem shaped_ints (ns : List Int) : SeqAt.shaped (.tuple (pyI ns)) = true := by
  unfold SeqAt.shaped
  have h1 : (PyData.tuple (pyI ns)).canLay0 = true := canLay_ints ns
  have h2 : (PyData.tuple (pyI ns)).depth ≤ 64 := by
    show PyData.depthAll (pyI ns) + 1 ≤ 64
    rw [depthAll_ints]; decide
  simp [h1, h2]
theorem eqv_ints : ∀ xs ys : List Int, PyData.eqvAll (pyI xs) (pyI ys) = decide (xs = ys)
  | [], [] => by simp [pyI, PyData.eqvAll]
  | [], _ :: _ => by simp [pyI, PyData.eqvAll]
  | _ :: _, [] => by simp [pyI, PyData.eqvAll]
  | x :: xs, y :: ys => by
    have ih := eqv_ints xs ys
    show (PyData.eqv (.int x) (.int y) && PyData.eqvAll (pyI xs) (pyI ys)) = _
    rw [ih]
    simp [PyData.eqv, beq_dec]
@[simp] theorem eqD_ints (xs ys : List Int) : eqD (.tup (xs.map D.int)) (.tup (ys.map D.int)) st = .ok (.bl (decide (xs = ys))) st := by
  unfold eqD eqP
  rw [toP_ints, toP_ints]
  simp only [shaped_ints, and_self, if_true]
  show R.ok (D.bl (PyData.eqvAll (pyI xs) (pyI ys))) st = _
  rw [eqv_ints]
end
end TK

set_option Elab.async false
set_option linter.all false
set_option maxRecDepth 100000
set_option maxHeartbeats 4000000
namespace TK
open PySem PySem.Spec
open PyProof.Rows hiding St
open L2
/-! # one step of the newer plain functions -/
@[simp] theorem sPar_ap (i j : Nat) (fl : LF) (env : AEnv) (st : Store) : sPar i j fl env st = (sOf (fl env st) env fun ds st1 => match ds with
  | [x, y] => .next ((env.set i (some x)).set j (some y)) st1
  | _ => .bad) := (Eq.refl _).trans rfl
@[simp] theorem sSub2_ap (fo fi fo' fi' fe : EF) (env : AEnv) (st : Store) : sSub2 fo fi fo' fi' fe env st = (sOf (fe env st) env fun d st1 => match d with
  | .tup [y, y'] => sThen (sSub fo fi (eC y) env st1) (sSub fo' fi' (eC y'))
  | _ => .bad) := (Eq.refl _).trans rfl
@[simp] theorem lRep_ap (fl : LF) (fe : EF) (env : AEnv) (st : Store) : lRep fl fe env st = ((fl env st).bind fun xs st1 => (fe env st1).bind fun d st2 => match d with
  | .int k => okIf (-1000000 ≤ k ∧ k ≤ 1000000 ∧ xs.length * k.toNat ≤ sizeLine) (.ok (List.replicate k.toNat xs).flatten st2)
  | _ => .bad) := by first | (simp only [lRep, ite_okIf]; done) | (simp only [lRep, ite_okIf]; rfl)
@[simp] theorem lRng2_ap (fe fe' : EF) (env : AEnv) (st : Store) : lRng2 fe fe' env st = ((fe env st).bind fun d st1 => (fe' env st1).bind fun d' st2 => match d, d' with
  | .int i, .int j => okIf (rgOk i j) (.ok (rangeD i (j - i).toNat) st2)
  | _, _ => .bad) := by first | (simp only [lRng2, hid_eq, ite_okIf]; done) | (simp only [lRng2, hid_eq, ite_okIf]; rfl)
@[simp] theorem sAug_ap (i : Nat) (g : Int → Int → Int) (fe : EF) (env : AEnv) (st : Store) : sAug i g (fun _ _ => True) fe env st = (match env[i]? with
  | some (some (.int x)) => sOf (fe env st) env fun d st1 => match d with
    | .int y => .next (env.set i (some (.int (g x y)))) st1
    | _ => .bad
  | _ => .bad) := (Eq.refl _).trans rfl
@[simp] theorem isBD_bl (i j : Bool) (st : Store) : isBD (.bl i) (.bl j) st = .ok (.bl (decide (i = j))) st := (Eq.refl _).trans rfl
@[simp] theorem nisBD_bl (i j : Bool) (st : Store) : nisBD (.bl i) (.bl j) st = .ok (.bl (!decide (i = j))) st := (Eq.refl _).trans rfl
variable {st : Store}
theorem toP_str (i : Str) : toP st 50 (.str i) = some (.str i) := rfl
theorem shaped_str {i : Str} (h : PyData.canLay0 (.str i) = true) : SeqAt.shaped (.str i) = true := by
  unfold SeqAt.shaped
  rw [h]; rfl
theorem eqD_str {i j : Str} (hi : PyData.canLay0 (.str i) = true) (hj : PyData.canLay0 (.str j) = true) : eqD (.str i) (.str j) st = .ok (.bl (i == j)) st := by
  unfold eqD eqP
  rw [toP_str, toP_str]
  simp [shaped_str hi, shaped_str hj, PyData.eqv]
theorem neD_str {i j : Str} (hi : PyData.canLay0 (.str i) = true) (hj : PyData.canLay0 (.str j) = true) : neD (.str i) (.str j) st = .ok (.bl (!(i == j))) st := by
  unfold neD eqP
  rw [toP_str, toP_str]
  simp [shaped_str hi, shaped_str hj, PyData.eqv]
/-- a side: left or right -/
def sdS (l : Bool) : Str := if l then "left" else "right"
def sdD (l : Bool) : D := .str (sdS l)
theorem sd_lay (l : Bool) : PyData.canLay0 (.str (sdS l)) = true := by cases l <;> decide +kernel
theorem sd_eq (l m : Bool) : (sdS l == sdS m) = (l == m) := by cases l <;> cases m <;> decide +kernel
theorem eqD_sd (l m : Bool) : eqD (sdD l) (sdD m) st = .ok (.bl (l == m)) st := by
  unfold sdD
  rw [eqD_str (sd_lay l) (sd_lay m), sd_eq]
theorem neD_sd (l m : Bool) : neD (sdD l) (sdD m) st = .ok (.bl (l != m)) st := by
  unfold sdD
  rw [neD_str (sd_lay l) (sd_lay m), sd_eq]
  rfl
theorem eqD_left (l : Bool) : eqD (sdD l) (.str "left") st = .ok (.bl l) st := by
  have := eqD_sd (st := st) l true
  have e : (l == true) = l := by cases l <;> rfl
  rw [e] at this
  exact this
theorem inD2_tup {x : D} {ds : List D} (h : flatD x = true) (hs : ds.all flatD = true) : inD2 x (.tup ds) st = .ok (.bl (inV (flV x) (ds.map flV))) st := by
  unfold inD2 inT
  simp only [h, hs, and_self, if_true]
theorem inD2_ref {x : D} {n : Nat} : inD2 x (.ref n) st = inD x (.ref n) st := rfl
/-! ### flags -/
def pyB (fs : List Bool) : List PyData := fs.map PyData.bool
theorem toPws_bls (f : Nat → Option PyData) : ∀ ns : List Bool, toPws f (ns.map D.bl) = some (pyB ns)
  | [] => rfl
  | n :: ns => by simp [toPws, toPw, toPws_bls f ns, pyB]
theorem toPw_bls (f : Nat → Option PyData) (ns : List Bool) : toPw f (.tup (ns.map D.bl)) = some (.tuple (pyB ns)) := by
  show (toPws _ (ns.map D.bl)).map PyData.tuple = _
  rw [toPws_bls]; rfl
theorem toP_bls (ns : List Bool) : ∀ k, toP st k (.tup (ns.map D.bl)) = some (.tuple (pyB ns))
  | 0 => toPw_bls _ ns
  | k + 1 => toPw_bls _ ns
theorem depthAll_bls : ∀ ns : List Bool, PyData.depthAll (pyB ns) = 0
  | [] => rfl
  | n :: ns => by
    show max _ (PyData.depthAll (pyB ns)) = 0
    rw [depthAll_bls ns]; rfl
theorem canLay_bls : ∀ ns : List Bool, PyData.canLayAll0 (pyB ns) = true
  | [] => rfl
  | n :: ns => by
    show (_ && PyData.canLayAll0 (pyB ns)) = true
    rw [canLay_bls ns]; rfl
theorem shaped_bls (ns : List Bool) : SeqAt.shaped (.tuple (pyB ns)) = true := by
  unfold SeqAt.shaped
  have h1 : (PyData.tuple (pyB ns)).canLay0 = true := canLay_bls ns
  have h2 : (PyData.tuple (pyB ns)).depth ≤ 64 := by
    show PyData.depthAll (pyB ns) + 1 ≤ 64
    rw [depthAll_bls]; decide
  simp [h1, h2]
theorem eqv_bls : ∀ xs ys : List Bool, PyData.eqvAll (pyB xs) (pyB ys) = decide (xs = ys)
  | [], [] => by simp [pyB, PyData.eqvAll]
  | [], _ :: _ => by simp [pyB, PyData.eqvAll]
  | _ :: _, [] => by simp [pyB, PyData.eqvAll]
  | x :: xs, y :: ys => by
    have ih := eqv_bls xs ys
    show (PyData.eqv (.bool x) (.bool y) && PyData.eqvAll (pyB xs) (pyB ys)) = _
    rw [ih]
    have e : PyData.eqv (.bool x) (.bool y) = decide (x = y) := by cases x <;> cases y <;> rfl
    simp [e]
@[simp] theorem eqD_bls (xs ys : List Bool) : eqD (.tup (xs.map D.bl)) (.tup (ys.map D.bl)) st = .ok (.bl (decide (xs = ys))) st := by
  unfold eqD eqP
  rw [toP_bls, toP_bls]
  simp only [shaped_bls, and_self, if_true]
  show R.ok (D.bl (PyData.eqvAll (pyB xs) (pyB ys))) st = _
  rw [eqv_bls]
theorem mapM_bls {f : D → Option PyData} (h : ∀ fs : List Bool, f (.tup (fs.map D.bl)) = some (.tuple (pyB fs))) : ∀ L : List (List Bool), (L.map fun fs => D.tup (fs.map D.bl)).mapM f = some (L.map fun fs => PyData.tuple (pyB fs))
  | [] => rfl
  | x :: xs => by
    rw [List.map_cons, List.mapM_cons, h, mapM_bls h xs]
    rfl
theorem depthAll_blss : ∀ L : List (List Bool), PyData.depthAll (L.map fun fs => PyData.tuple (pyB fs)) ≤ 1
  | [] => Nat.zero_le _
  | x :: L => by
    show max (PyData.depthAll (pyB x) + 1) (PyData.depthAll (L.map fun fs => PyData.tuple (pyB fs))) ≤ 1
    rw [depthAll_bls]
    exact Nat.max_le.mpr ⟨Nat.le_refl _, depthAll_blss L⟩
theorem canLay_blss : ∀ L : List (List Bool), PyData.canLayAll0 (L.map fun fs => PyData.tuple (pyB fs)) = true
  | [] => rfl
  | x :: L => by
    show (PyData.canLayAll0 (pyB x) && PyData.canLayAll0 (L.map fun fs => PyData.tuple (pyB fs))) = true
    rw [canLay_bls, canLay_blss L]; rfl
theorem shaped_blss (L : List (List Bool)) : SeqAt.shaped (.list (L.map fun fs => PyData.tuple (pyB fs))) = true := by
  unfold SeqAt.shaped
  have h1 : (PyData.list (L.map fun fs => PyData.tuple (pyB fs))).canLay0 = true := canLay_blss L
  have h2 : (PyData.list (L.map fun fs => PyData.tuple (pyB fs))).depth ≤ 64 := by
    show PyData.depthAll (L.map fun fs => PyData.tuple (pyB fs)) + 1 ≤ 64
    have := depthAll_blss L
    omega
  simp [h1, h2]
theorem any_bls (fs : List Bool) : ∀ L : List (List Bool), ((L.map fun fs => PyData.tuple (pyB fs)).any fun z => PyData.eqv z (.tuple (pyB fs))) = decide (fs ∈ L)
  | [] => by simp
  | x :: L => by
    rw [List.map_cons, List.any_cons, any_bls fs L]
    show (PyData.eqvAll (pyB x) (pyB fs) || _) = _
    rw [eqv_bls]
    by_cases c : x = fs
    · subst c; simp
    · have c' : ¬ fs = x := fun z => c z.symm
      simp [c, c']
/-- flags in a list of tuples of flags -/
theorem in_bls {n : Nat} {fs : List Bool} {L : List (List Bool)} (h : st[n]? = some (.lst (L.map fun fs => D.tup (fs.map D.bl)))) : inD2 (.tup (fs.map D.bl)) (.ref n) st = .ok (.bl (decide (fs ∈ L))) st := by
  rw [inD2_ref]
  have e : toP st 50 (.ref n) = some (.list (L.map fun fs => PyData.tuple (pyB fs))) := by
    show (match seqOf (.ref n) st with
      | some ds => (ds.mapM (toP st 49)).map PyData.list
      | none => none) = _
    rw [seqOf_ref, h]
    simp only [mapM_bls (f := toP st 49) (fun fs => toP_bls fs 49) L]
    rfl
  unfold inD inP
  rw [e, toP_bls]
  simp only [shaped_bls, shaped_blss, and_self, if_true]
  rw [any_bls]
end TK

set_option Elab.async false
set_option linter.all false
set_option maxRecDepth 100000
set_option maxHeartbeats 4000000
namespace TK
open PySem PySem.Spec
open PyProof.Rows hiding St
open L2
/-! ## list(range(i, j, -1)) -/
def rgDn (i j : Int) : List V := (List.range (i - j).toNat).map fun (k : Nat) => V.int (i + (k : Int) * (-1))
theorem rgDn_length (i j : Int) : (rgDn i j).length = (i - j).toNat := by unfold rgDn; rw [List.length_map, List.length_range]
theorem vals_dn {i j : Int} {acc : Array Value} (h : ItemsOf (fun k v => ∃ t, v = .int (i + k * (-1)) t) acc (i - j).toNat) : Vals (rgDn i j) acc.toList := by
  have e : acc.toList.length = (i - j).toNat := by rw [Array.length_toList]; exact h.1
  unfold rgDn
  rw [← e]
  refine vals_of_get acc.toList _ fun k u hk => ?_
  obtain ⟨t, rfl⟩ := h.2 k u (by rw [← hk, Array.getElem?_toList])
  exact ⟨t, rfl⟩
def dnOk (i j c : Int) : Prop := c = -1 ∧ -(2 ^ 62) ≤ i ∧ i < 2 ^ 62 ∧ -(2 ^ 62) ≤ j ∧ j < 2 ^ 62 ∧ (i - j).toNat ≤ 2 ^ 24
instance (i j c : Int) : Decidable (dnOk i j c) := by unfold dnOk; infer_instance
def tLstR3 (ta : TA) : TE := fun σ H Q => ta σ H fun vs H1 => ∃ (i j c : Int), vs = [.int i, .int j, .int c] ∧ dnOk i j c ∧ ∀ q, H1 q = none → Q (.ref q) (upd H1 q (.lst (rgDn i j)))
section
variable {X : Cx} {a b c : Expr} {ta : TA}
theorem pe_listRg3 {p p2 pos pos2 : Pos} (hc : X.calm = true) (hg : Gl X "list") (hm : X.mg "list" = none) (hg2 : Gl X "range") (hm2 : X.mg "range" = none) (ha : PA X [a, b, c] ta)
    (hs : starEach [a, b, c] X.env = (false, eval a X.env) :: starEach [b, c] X.env := by rfl) (hpl : (backTo pos2 (starEach [b, c] X.env)).any (·.1) = false := by rfl)
    (na : starEach [.Call (.Name "range" p2) [a, b, c] [] pos2] X.env = (false, eval (.Call (.Name "range" p2) [a, b, c] [] pos2) X.env) :: starEach [] X.env := by rfl) :
    PE X (.Call (.Name "list" p) [.Call (.Name "range" p2) [a, b, c] [] pos2] [] pos) (tLstR3 ta) := by
  refine ⟨fun pins s σ H Q I h => ?_⟩
  have he : wpAny (model X.prog X.w) X.A (eval (.Call (.Name "range" p2) [a, b, c] [] pos2) X.env) (fun x s' => ∃ r i j k t t' t'' H', x = .ref r ∧ IsRange s'.heap r i j k t t' t'' ∧ Inv X pins σ H' s' ∧ dnOk i j k ∧ ∀ q, H' q = none → Q (.ref q) (upd H' q (.lst (rgDn i j)))) X.xe s := by
    refine Call_ (ld_blt I hg2 hm2 boot_range (PyProof.Rows.callWith_type1 (thn (ha.run pos2 pins s σ H _ I h) fun us s1 ⟨vs, H1, I1, r1, q1⟩ => ?_) hs hpl))
    obtain ⟨i, j, k, e, ok, q⟩ := q1
    subst e
    cases r1 with
    | cons r rr =>
      cases rr with
      | cons r' rr =>
        cases rr with
        | cons r'' rr =>
          cases rr
          obtain ⟨t, rfl⟩ := r
          obtain ⟨t', rfl⟩ := r'
          obtain ⟨t'', rfl⟩ := r''
          have k1 : k = -1 := ok.1
          have c0 : k ≠ 0 := by omega
          have c1 : k.natAbs < 1073741824 := by omega
          refine call_range_3 c0 ?_ (.inl (PyProof.noPylong_small c1))
          exact ⟨_, i, j, k, _, _, _, H1, rfl, IsRange.new _ _ _ _ _ _ _, I1.kept (t' := s1.toks) fun b o e => Heap.get?_push_of_some _ e, ok, q⟩
  refine Call_ (ld_blt I hg hm boot_list (PyProof.Rows.callWith_type1 (args_cons (thn he fun x s1 ⟨r, i, j, k, t, u, v, H1, ex, hr, I1, ok, q⟩ => args_nil ?_) na) na))
  subst ex
  obtain ⟨rfl, b1, b2, b3, b4, b5⟩ := ok
  refine call_list_range (n := (i - j).toNat) (I1.ok.hd hc) hr (PySem.W.small_down b1 b2 b3 b4) (PySem.W.rangeSize_downNat i j) b5 fun h' tk acc c' hk e' hi => ?_
  refine ⟨.ref s1.heap.objs.size, upd H1 s1.heap.objs.size (.lst (rgDn i j)), I1.laid hk (Nat.le_refl _) (show ObjOk X.prog X.w _ _ _ (.lst (rgDn i j)) from ⟨?_, acc.toList, c', vals_dn hi, ?_⟩), rfl, q _ (I1.hok.fresh (Nat.le_refl _))⟩
  · rw [rgDn_length, sizeLine_eq]; omega
  · rw [Array.toArray_toList]; exact e'
end
theorem dnRel {G : GX} {μ : List Addr} {H : Hp} (i j : Int) : RelDs G μ H (rangeS i (-1) (i - j).toNat) (rgDn i j) := by
  refine .of_all (by rw [rgDn_length, rangeS_len]) fun k d v e1 e2 => ?_
  rw [rangeS_get] at e1
  split at e1
  · rename_i hk
    cases e1
    unfold rgDn at e2
    rw [List.getElem?_map, List.getElem?_range hk] at e2
    cases e2
    rfl
  · cases e1
noncomputable def lRng3 (fa : LF) : LF := fun env st => (fa env st).bind fun ds st1 => match ds with
  | [.int i, .int j, .int c] => hid (if dnOk i j c then .ok (rangeS i (-1) (i - j).toNat) st1 else .bad)
  | _ => .bad
section
variable {X : Cx} {W : WX} {a b c : Expr} {fa : LF} {pos : Pos} {lv : Nat}
theorem al_listRng3 {p p2 pos2 : Pos} (cx : Ctx X W lv) (hm : X.mg "list" = none) (hm2 : X.mg "range" = none) (ha : AA X W [a, b, c] fa) (hg : Gl X "list" := by rfl) (hg2 : Gl X "range" := by rfl)
    (hs : starEach [a, b, c] X.env = (false, eval a X.env) :: starEach [b, c] X.env := by rfl) (hpl : (backTo pos2 (starEach [b, c] X.env)).any (·.1) = false := by rfl)
    (na : starEach [.Call (.Name "range" p2) [a, b, c] [] pos2] X.env = (false, eval (.Call (.Name "range" p2) [a, b, c] [] pos2) X.env) :: starEach [] X.env := by rfl) :
    AL X W (.Call (.Name "list" p) [.Call (.Name "range" p2) [a, b, c] [] pos2] [] pos) (lRng3 fa) := (pe_listRg3 cx.calm hg hm hg2 hm2 ha hs hpl na).weak fun σ H Q ⟨μ, env, st, hs, er, q⟩ =>
    ⟨μ, env, st, hs, er, Post.bind q fun ds st1 μ1 H1 vs eq x1 hs1 rs p1 => by
      split at p1
      · rename_i i j k
        obtain ⟨v, rest, rfl, rd, v2, rest2, rfl, rd2, v3, rest3, rfl, rd3, e0⟩ := rs
        cases e0; cases rd; cases rd2; cases rd3
        rw [hid_eq] at p1
        split at p1
        · rename_i h
          exact ⟨i, j, k, rfl, h, fun l hl => p1 μ1 _ _ (.new hl) (hs1.new hl) ⟨l, _, rfl, hl, hs1.fresh hl, upd_same, dnRel _ _⟩⟩
        · exact p1.elim
      · exact p1.elim⟩
end
@[simp] theorem lRng3_ap (fa : LF) (env : AEnv) (st : Store) : lRng3 fa env st = ((fa env st).bind fun ds st1 => match ds with
  | [.int i, .int j, .int c] => okIf (dnOk i j c) (.ok (rangeS i (-1) (i - j).toNat) st1)
  | _ => .bad) := by first | (simp only [lRng3, hid_eq, ite_okIf]; done) | (simp only [lRng3, hid_eq, ite_okIf]; rfl)
end TK

set_option Elab.async false
set_option linter.all false
set_option maxRecDepth 100000
set_option maxHeartbeats 4000000
namespace TK
open PySem PySem.Spec
open PyProof.Rows hiding St
open L2
/-! ## an empty dict -/
def eDct0 : EF := fun _ st => .ok (.ref st.length) (st ++ [.dct []])
section
variable {X : Cx} {W : WX} {e : Expr} {fe : EF} {pos pos' : Pos} {lv : Nat}
theorem ae_dct0 : AE X W (.Dict [] [] pos) eDct0 := pe_dnewK.weak fun σ H Q ⟨μ, env, st, hs, er, p⟩ => fun q hq => by
  have hn : q ∉ μ := hs.fresh hq
  refine p (μ ++ [q]) (upd H q (.dK [])) _ ((Ext.new hq).adopt hq hn) ((hs.new hq).adopt upd_same hn ⟨[], rfl, rfl⟩) ⟨q, ?_, rfl⟩
  rw [← hs.len, List.getElem?_append_right (Nat.le_refl _)]; simp
end
/-! ## isinstance of built-in kinds, asked of instances too -/
structure InsG (G : GX) (c : Str) : Prop where
  ex : ∃ C, G.mg c = some (.ref C) ∧ Cls G.K C ∧ PySem.W.findIn G.K (.ref C) "__class__" = some (some (.builtin "object.__class__")) ∧ PySem.W.specialIn G.K (.builtin "object.__class__") "__get__" = some (some (.builtin "getset_descriptor.__get__")) ∧
    PySem.W.takesIn G.K (.builtin "object.__class__") = some true ∧ PySem.W.mroIn G.K C (.type "object") = some true ∧ ∀ T ∈ tysAll, PySem.W.kitOne G.K (.ref C) (.type T) = some false
def eIsiO (c : Str) (T : String) (fe : EF) : EF := fun env st => (fe env st).bind fun d st1 => match kindD d st1 with
  | some k => .ok (.bl (subT [T] k)) st1
  | none => match d with
    | .ref n => (match st1[n]? with
      | some (.ins c1 _) => if c1 = c then .ok (.bl false) st1 else .bad
      | _ => .bad)
    | _ => .bad
section
variable {X : Cx} {W : WX} {e : Expr} {fe : EF} {pos pos' : Pos} {lv : Nat}
theorem ae_isiO {p p2 : Pos} {x c : Str} (T : String) (J : InsG (gx X) c) (hm : X.mg "isinstance" = none) (ha : AE X W e fe) (hg : Gl X "isinstance" := by rfl) (hx : Gl X x := by rfl) (hmx : X.mg x = none) (hv : bootBuiltins x = some (.type T) := by decide +kernel) (hT : T ∈ tysAll := by decide)
    (hn : x ≠ "__name__" := by decide) (hd : (x == ("__debug__" : Str)) = false := by decide)
    (he : starEach [e, .Name x p2] X.env = (false, eval e X.env) :: starEach [.Name x p2] X.env := by rfl) (he2 : starEach [.Name x p2] X.env = (false, eval (.Name x p2) X.env) :: starEach [] X.env := by rfl) (hpl : (backTo pos (starEach [.Name x p2] X.env)).any (·.1) = false := by rfl) :
    AE X W (.Call (.Name "isinstance" p) [e, .Name x p2] [] pos) (eIsiO c T fe) := by
  obtain ⟨C, hC, k1, k2, k3, k4, k5, k6⟩ := J.ex
  exact (pe_callB call_isi hg hm (by decide +kernel) (pa_cons ha (pa_cons (pe_bltn (v := .ty T) hx hmx hv (by rfl) hn hd) pa_nil he2) he) (he := he) (hpl := hpl)).weak fun σ H Q ⟨μ, env, st, hs, er, q⟩ =>
    ⟨μ, env, st, hs, er, Post.bind q fun d st1 μ1 H1 v _ x1 hs1 r1 p1 => by
      split at p1
      · rename_i k ek
        refine ⟨v, .ty T, _, _, _, rfl, .ty T, kind_ty hs1 r1 ek, ?_, p1 μ1 H1 _ .refl hs1 rfl⟩
        simp only [subT, Bool.or_false]
        exact kit_ty (kit_all k (kind_mem ek) T hT)
      · split at p1
        · obtain ⟨a, ea, rfl⟩ := r1
          split at p1
          · rename_i c1 f1 e1
            split at p1
            · rename_i hc
              subst hc
              obtain ⟨_, h1, C1, dx, vs, rfl, m1, _⟩ := hs1.obj _ a _ ea e1
              have hC' : (gx X).mg c1 = some (.ref C) := hC
              rw [hC'] at m1
              cases m1
              exact ⟨.ref a, .ty T, .ref C, .type T, false, rfl, .ty T, .base (.ins h1 k1 k2 k3 k4 k5), k6 T hT, p1 μ1 H1 _ .refl hs1 rfl⟩
            · exact p1.elim
          · exact p1.elim
        · exact p1.elim⟩
end
theorem insG_of {K : PySem.W.Frag} {h : Heap} {mg : Str → Option Value} {x : Str} (X : K.In h) (N : h.Ns mainGlobals mg) {C : Addr} (aC : PySem.W.nsIn K mainGlobals x = some (some (.ref C)))
    (pg : PySem.W.plainGet K C Str.empty = true) (hd : PySem.W.hasDictIn K C = true) (po : PySem.W.plainOver K C = true) (sa : PySem.W.findIn K (.ref C) "__setattr__" = some (some (.builtin "object.__setattr__")))
    (k2 : PySem.W.findIn K (.ref C) "__class__" = some (some (.builtin "object.__class__"))) (k3 : PySem.W.specialIn K (.builtin "object.__class__") "__get__" = some (some (.builtin "getset_descriptor.__get__"))) (k4 : PySem.W.takesIn K (.builtin "object.__class__") = some true)
    (k5 : PySem.W.mroIn K C (.type "object") = some true) (t1 : PySem.W.kitOne K (.ref C) (.type "bool") = some false) (t2 : PySem.W.kitOne K (.ref C) (.type "int") = some false) (t3 : PySem.W.kitOne K (.ref C) (.type "str") = some false)
    (t4 : PySem.W.kitOne K (.ref C) (.type "tuple") = some false) (t5 : PySem.W.kitOne K (.ref C) (.type "list") = some false) (t6 : PySem.W.kitOne K (.ref C) (.type "dict") = some false) : InsG ⟨K, mg⟩ x :=
  ⟨C, PySem.W.mg_of X N aC, ⟨pg, hd, po, sa⟩, k2, k3, k4, k5, fun T hT => by
    simp only [tysAll, List.mem_cons, List.not_mem_nil, or_false] at hT
    rcases hT with rfl | rfl | rfl | rfl | rfl | rfl
    · exact t1
    · exact t2
    · exact t3
    · exact t4
    · exact t5
    · exact t6⟩
/-! ## try, one clause without a name -/
def noXS (r : RS) : RS := match r with
  | .exc _ _ _ => .bad
  | r => r
def sTryO (cat : List (Str × Bool)) (fb fs : SF) : SF := fun env st => match fb env st with
  | .exc env' x st' => (match cat.lookup x.cls with
    | some true => noXS (fs env' st')
    | some false => .exc env' x st'
    | none => .bad)
  | r => r
/-- what the clause of x says of the classes asked -/
def TryF (G : GX) (x : Str) (cat : List (Str × Bool)) : Prop := ∃ c, G.mg x = some c ∧ ∀ (y : Str) (b : Bool), cat.lookup y = some b → ∀ C, G.mg y = some C → PySem.W.exmOne G.K C c = some b
section
variable {X : Cx} {W : WX} {pos pos' np : Pos} {lv : Nat} {body suite : List Stmt} {b₀ : Stmt} {fb fs : SF}
theorem as_tryO {x : Str} {cat : List (Str × Bool)} (cx : Ctx X W lv) (h : TryF (gx X) x cat)
    (hb : ∀ (W' : WX) (pn : List (Addr × Obj)) (xe : Value → Shared → Prop), Ctx (X.tr pn xe) W' lv → ASs (X.tr pn xe) W' body fb)
    (hsu : ∀ (a : Addr) (pn : List (Addr × Obj)), ASs (X.suite a pn) W0 (b₀ :: suite) fs)
    (hs : X.stack = X.env :: X.outer := by rfl) (hf : X.env.frame = some X.env.locals := by rfl) (hg : Gl X x := by rfl) (hd : (x == ("__debug__" : Str)) = false := by decide) :
    AS X W (.Try body [.ExceptHandler (some (.Name x np)) none (b₀ :: suite) pos'] [] [] pos) (sTryO cat fb fs) := by
  obtain ⟨c, hc, hm⟩ := h
  exact (ps_try_only (tb := fun W' D σ H => ∃ μ env st, HS (gx X) μ H st ∧ EnvR (gx X) μ H env σ ∧ PostS (gx X) W' μ H (fb env st) D)
    (ts := fun _ _ _ D σ H => ∃ μ env st, HS (gx X) μ H st ∧ EnvR (gx X) μ H env σ ∧ PostS (gx X) W0 μ H (fs env st) D)
    hs hf ⟨hg, hd, .inl hc⟩ cx.tk (fun W' pn xe tk own => hb W' pn xe ⟨cx.nd, cx.calm, cx.room, own, tk⟩) (fun a oe cls d pn _ _ => hsu a _)).weak fun Dn σ H ⟨μ, env, st, hs, er, p⟩ => by
    refine ⟨μ, env, st, hs, er, ?_⟩
    unfold sTryO at p
    cases q : fb env st with
    | next env1 st1 => rw [q] at p; exact p
    | ret d st1 => rw [q] at p; exact p
    | brk env1 st1 => rw [q] at p; exact p
    | cont env1 st1 => rw [q] at p; exact p
    | bad => rw [q] at p; exact p
    | exc env1 x1 st1 =>
      rw [q] at p
      intro μ' H' σ' C od e2 hs2 er2 rx
      obtain ⟨C', hC1, hC2, hC3⟩ := id rx
      simp only at p
      split at p
      · rename_i hl
        refine ⟨true, hm _ _ hl _ (by rw [hC2]; exact hC1), fun _ a na => ⟨μ', env1, st1, hs2, er2, ?_⟩, fun z => nomatch z⟩
        have p2 := PostS.later p e2
        cases q2 : fs env1 st1 with
        | exc e3 x3 s3 => rw [q2] at p2; exact p2.elim
        | next e3 s3 => rw [q2] at p2; exact p2
        | ret e3 s3 => rw [q2] at p2; exact p2
        | brk e3 s3 => rw [q2] at p2; exact p2
        | cont e3 s3 => rw [q2] at p2; exact p2
        | bad => rw [q2] at p2; exact p2.elim
      · rename_i hl
        exact ⟨false, hm _ _ hl _ (by rw [hC2]; exact hC1), (fun z => nomatch z), fun _ => p μ' H' σ' C od e2 hs2 er2 rx⟩
      · exact p.elim
/-- a name set inside an except suite -/
theorem as_setN {e : Expr} {fe : EF} (nd : X.N.Nodup) (i : Nat) {x : Str} {pos' : Pos} (he : AE X W e fe) (hi : X.N[i]? = some x := by rfl) (hx : Loc X.env.scope x := by first | exact Or.inl rfl | exact Or.inr rfl)
    (hs : swapsWith e (some (.Name x pos')) pos.line X.env = pure false := by rfl) (hf : X.fn x = true ∨ X.env.scope.names.lookup x = some .local := by first | exact .inl rfl | exact .inr rfl) :
    AS X W (.Assign [.Name x pos'] e pos) (sSet i fe) := (ps_set nd hi hx he hs hf).weak fun Dn σ H ⟨μ, env, st, hs, er, p⟩ =>
  ⟨μ, env, st, hs, er, PostS.bind p hs er fun d st1 μ1 H1 v _ x1 hs1 r1 p1 => p1 μ1 H1 _ .refl hs1 ((er.ext hs x1).set r1 i)⟩
end
/-! ## facts for the head -/
def TryC (G : GX) (c : Value) (cat : List (Str × Bool)) : Prop := ∀ (y : Str) (b : Bool), cat.lookup y = some b → ∀ C, G.mg y = some C → PySem.W.exmOne G.K C c = some b
theorem tryC_nil {G : GX} {c : Value} : TryC G c [] := fun _ _ h => by cases h
theorem tryC_cons {G : GX} {c C : Value} {y : Str} {b : Bool} {cat : List (Str × Bool)} (hy : G.mg y = some C) (e : PySem.W.exmOne G.K C c = some b) (t : TryC G c cat) : TryC G c ((y, b) :: cat) := fun z b' h C' hC' => by
  rw [List.lookup_cons] at h
  split at h
  · rename_i hz
    have hz : z = y := by simpa using hz
    cases h
    subst hz
    rw [hy] at hC'
    cases hC'
    exact e
  · exact t z b' h C' hC'
theorem tryF_of {G : GX} {x : Str} {c : Value} {cat : List (Str × Bool)} (h : G.mg x = some c) (t : TryC G c cat) : TryF G x cat := ⟨c, h, t⟩
/-! ## for the specs -/
@[simp] theorem eDct0_ap (env : AEnv) (st : Store) : eDct0 env st = .ok (.ref st.length) (st ++ [.dct []]) := rfl
/-- isinstance of one value -/
def vIsiO (c : Str) (T : String) (d : D) (st : Store) : R D := match kindD d st with
  | some k => .ok (.bl (subT [T] k)) st
  | none => match d with
    | .ref n => (match st[n]? with
      | some (.ins c1 _) => if c1 = c then .ok (.bl false) st else .bad
      | _ => .bad)
    | _ => .bad
@[simp] theorem eIsiO_ap (c : Str) (T : String) (fe : EF) (env : AEnv) (st : Store) : eIsiO c T fe env st = (fe env st).bind (vIsiO c T) := (Eq.refl _).trans rfl
@[simp] theorem vIsiO_non (c : Str) (T : String) (st : Store) : vIsiO c T .non st = .ok (.bl (subT [T] "NoneType")) st := rfl
@[simp] theorem vIsiO_bl (c : Str) (T : String) (b : Bool) (st : Store) : vIsiO c T (.bl b) st = .ok (.bl (subT [T] "bool")) st := rfl
@[simp] theorem vIsiO_int (c : Str) (T : String) (i : Int) (st : Store) : vIsiO c T (.int i) st = .ok (.bl (subT [T] "int")) st := rfl
@[simp] theorem vIsiO_str (c : Str) (T : String) (x : Str) (st : Store) : vIsiO c T (.str x) st = .ok (.bl (subT [T] "str")) st := rfl
@[simp] theorem vIsiO_tup (c : Str) (T : String) (ds : List D) (st : Store) : vIsiO c T (.tup ds) st = .ok (.bl (subT [T] "tuple")) st := rfl
theorem vIsiO_lst {c : Str} {T : String} {n : Nat} {ds : List D} {st : Store} (h : st[n]? = some (.lst ds)) : vIsiO c T (.ref n) st = .ok (.bl (subT [T] "list")) st := by
  unfold vIsiO
  simp [kindD, h]
theorem vIsiO_dct {c : Str} {T : String} {n : Nat} {kvs : List (D × D)} {st : Store} (h : st[n]? = some (.dct kvs)) : vIsiO c T (.ref n) st = .ok (.bl (subT [T] "dict")) st := by
  unfold vIsiO
  simp [kindD, h]
theorem vIsiO_ins {c : Str} {T : String} {n : Nat} {fs : List (Str × D)} {st : Store} (h : st[n]? = some (.ins c fs)) : vIsiO c T (.ref n) st = .ok (.bl false) st := by
  unfold vIsiO
  simp [kindD, h]
@[simp] theorem noXS_next (e : AEnv) (s : Store) : noXS (.next e s) = .next e s := rfl
@[simp] theorem noXS_ret (d : D) (s : Store) : noXS (.ret d s) = .ret d s := rfl
theorem sTryO_ap (cat : List (Str × Bool)) (fb fs : SF) (env : AEnv) (st : Store) : sTryO cat fb fs env st = match fb env st with
  | .exc env' x st' => (match cat.lookup x.cls with
    | some true => noXS (fs env' st')
    | some false => .exc env' x st'
    | none => .bad)
  | r => r := rfl
end TK

set_option Elab.async false
set_option linter.all false
set_option maxRecDepth 100000
set_option maxHeartbeats 4000000
namespace TK
open PySem PySem.Spec
open PyProof.Rows hiding St
open L2
/-! # own methods -/
section
variable {X : Cx} {CX : CXT} {k : Nat} {f C : Addr} {fd : FuncData} {ps : List Str} {sp : Sp} {E : St → XK} {m : Str} {pos apos : Pos} {e o : Expr} {es : List Expr} {ta : TE} {t : TA} {pl : Sem Bool}
def tMethS (C : Addr) (m : Str) (sp : Sp) (E : St → XK) (ta : TE) (t : TA) : TE := fun σ H Q => ta σ H fun x H1 => ∃ a dx fs, x = .ref a ∧ H1 a = some (.ins C dx fs) ∧ fs.lookup m = none ∧ t σ H1 fun vs H2 => sp (x :: vs) H2 Q (E σ)
abbrev MethEv (X : Cx) (o : Expr) (m : Str) (es : List Expr) (apos pos : Pos) (pl : Sem Bool) : Prop :=
  eval (.Call (.Attribute o m apos) es [] pos) X.env = (do let ov ← eval o X.env; standAt apos.atName; let (f, first) ← holding [ov] (getMethod ov m pl); callWith pos f first (backTo pos (starEach es X.env)) (backToKw pos (keywordEach [] X.env)))
theorem pe_methX (he : PE X o ta) (c : Cls X.K C) (hm : Meth X.K C m f) (F : FnOk X.prog X.w X.K X.mg X.base CX k f fd ps sp) (hr : Room k X.A) (hb : Binds X.K fd ps []) (hx : ∀ σ, PassesAt CX X σ (E σ)) (ha : PA X (e :: es) t)
    (hst : starEach (e :: es) X.env = (false, eval e X.env) :: starEach es X.env) (hpl : (backTo pos (starEach es X.env)).any (·.1) = false) (ht : MethEv X o m (e :: es) apos pos pl) : PE X (.Call (.Attribute o m apos) (e :: es) [] pos) (tMethS C m sp E ta t) :=
  ⟨fun pins s σ H Q I h => PySem.W.methodCall_KW (pl := pl) (thn (he.run pins s σ H _ I h) fun u s1 ⟨x, H1, I1, rx, a, dx, fs, ex, ea, l, q⟩ => by
    subst ex
    cases rx
    exact getmeth_ok I1 ea c hm l (PySem.W.callWith_K (first := [.ref a]) (h₀ := X.base) I.ok.mod.kin hm.kp (thn (ha.run pos pins s1 σ H1 _ I1 q) fun us s2 ⟨vs, H2, I2, r, q2⟩ =>
      ⟨I2.kIn, run_fnSD (us := .ref a :: us) (vs := .ref a :: vs) (dvs := []) (ds := []) F hr hb .nil (hx σ) I2 (.cons rfl r) (by rw [List.append_nil]; exact q2)⟩) hst hpl)) ht⟩
theorem pe_methX0 (he : PE X o ta) (c : Cls X.K C) (hm : Meth X.K C m f) (F : FnOk X.prog X.w X.K X.mg X.base CX k f fd ps sp) (hr : Room k X.A) (hb : Binds X.K fd ps []) (hx : ∀ σ, PassesAt CX X σ (E σ))
    (ht : MethEv X o m [] apos pos pl) : PE X (.Call (.Attribute o m apos) [] [] pos) (tMethS C m sp E ta tNil) :=
  ⟨fun pins s σ H Q I h => PySem.W.methodCall_KW (pl := pl) (thn (he.run pins s σ H _ I h) fun u s1 ⟨x, H1, I1, rx, a, dx, fs, ex, ea, l, q⟩ => by
    subst ex
    cases rx
    exact getmeth_ok I1 ea c hm l (PySem.W.callWith_K0 (first := [.ref a]) I1.kIn hm.kp (run_fnSD (us := [.ref a]) (vs := [.ref a]) (dvs := []) (ds := []) F hr hb .nil (hx σ) I1 (.cons rfl .nil) q))) ht⟩
end
/-- the def x of the class c -/
structure DefA (G : GX) (P : Program) (w : World) (base : Heap) (k : Nat) (c x : Str) (n : Nat) (m : List D → Store → R D) : Prop where
  ex : ∃ C f fd ps, FnOk P w G.K G.mg base (L2.CX P w) k f fd ps (spA G m n) ∧ G.mg c = some (.ref C) ∧ Cls G.K C ∧ Meth G.K C x f ∧ Binds G.K fd ps []
/-- the object whose method is asked -/
def selfR (c x : Str) (d : D) (st : Store) : R D := match d with
  | .ref n => (match st[n]? with
    | some (.ins c1 fs) => if c1 = c ∧ fs.lookup x = none then .ok (.ref n) st else .bad
    | _ => .bad)
  | _ => .bad
noncomputable def eMeth (c x : Str) (m : List D → Store → R D) (fo : EF) (fr : LF) : EF := fun env st => (fo env st).bind fun d st1 => (selfR c x d st1).bind fun d st1 => (fr env st1).bind fun ds st2 => gcR st2 (m (d :: ds) st2)
theorem RelF.none {G : GX} {μ : List Addr} {H : Hp} : ∀ {fs : List (Str × D)} {vs : List (Str × V)} {f : Str}, RelF G μ H fs vs → fs.lookup f = none → vs.lookup f = none
  | [], _, _, r, _ => by cases r; rfl
  | (x, d) :: fs, _, f, r, e => by
    obtain ⟨v, rest, rfl, rd, rs⟩ := r
    rw [List.lookup_cons] at e ⊢
    split at e
    · cases e
    · exact RelF.none rs e
section
variable {X : Cx} {W : WX} {o e : Expr} {es : List Expr} {fo : EF} {fr : LF} {pos apos : Pos} {lv k n : Nat} {pl : Sem Bool} {c x : Str} {m : List D → Store → R D}
theorem meth_sp {C : Addr} {σ : St} {H : Hp} {Q : VK} (hC : (gx X).mg c = some (.ref C)) (h : tG (gx X) W (relD (gx X)) (eMeth c x m fo fr) σ H Q) (hn : ∀ env st ds st', fr env st = .ok ds st' → ds.length = n) :
    tMethS C x (spA (gx X) m (n + 1)) (WE W) (tG (gx X) W (relD (gx X)) fo) (tG (gx X) W (relDs (gx X)) fr) σ H Q := by
  obtain ⟨μ, env, st, hs, er, q⟩ := h
  refine ⟨μ, env, st, hs, er, Post.bind q fun d st1 μ1 H1 v e1 x1 hs1 r1 p1 => ?_⟩
  unfold selfR at p1
  split at p1
  · rename_i i
    split at p1
    · rename_i c1 fs e2
      split at p1
      · rename_i hc
        obtain ⟨rfl, hl⟩ := hc
        obtain ⟨a, ea, rfl⟩ := r1
        obtain ⟨_, h1, C1, dx, vs, rfl, m1, rf⟩ := hs1.obj i a _ ea e2
        rw [hC] at m1
        cases m1
        refine ⟨a, dx, vs, rfl, h1, rf.none hl, μ1, env, st1, hs1, er.ext hs x1, ?_⟩
        rw [R.bind_ok] at p1
        refine Post.bind p1 fun ds st2 μ2 H2 us e3 x2 hs2 r2 p2 => ?_
        refine ⟨μ2, st2, .ref i :: ds, hs2, .cons (RelD.ext hs1 x2 (.ref i) _ ⟨a, ea, rfl⟩) r2, (Post.gc hs2 p2).slots fun _ _ _ w => w, by simp [hn env st1 ds st2 e3]⟩
      · exact p1.elim
    · exact p1.elim
  · exact p1.elim
theorem ae_meth (F : DefA (gx X) X.prog X.w X.base k c x (n + 1) m) (cx : Ctx X W lv) (ho : AE X W o fo) (ha : AA X W (e :: es) fr) (hn : ∀ env st ds st', fr env st = .ok ds st' → ds.length = n) (hk : k ≤ lv := by decide)
    (hst : starEach (e :: es) X.env = (false, eval e X.env) :: starEach es X.env := by rfl) (hpl : (backTo pos (starEach es X.env)).any (·.1) = false := by rfl) (ht : MethEv X o x (e :: es) apos pos pl := by rfl) :
    AE X W (.Call (.Attribute o x apos) (e :: es) [] pos) (eMeth c x m fo fr) := by
  obtain ⟨C, f, fd, ps, F, hC, h1, h2, h3⟩ := F.ex
  exact (pe_methX ho h1 h2 F (cx.room.mono hk) h3 cx.at ha hst hpl ht).weak fun σ H Q h => meth_sp hC h hn
theorem ae_meth0 (F : DefA (gx X) X.prog X.w X.base k c x 1 m) (cx : Ctx X W lv) (ho : AE X W o fo) (hk : k ≤ lv := by decide) (ht : MethEv X o x [] apos pos pl := by rfl) :
    AE X W (.Call (.Attribute o x apos) [] [] pos) (eMeth c x m fo lNil) := by
  obtain ⟨C, f, fd, ps, F, hC, h1, h2, h3⟩ := F.ex
  refine (pe_methX0 ho h1 h2 F (cx.room.mono hk) h3 cx.at ht).weak fun σ H Q h => ?_
  obtain ⟨μ, env, st, hs, er, q⟩ := meth_sp hC h lNil_len
  refine ⟨μ, env, st, hs, er, Post.mono q ?_⟩
  rintro v H1 ⟨a, dx, fs, ev, eh, el, μ1, env1, st1, hs1, er1, p⟩
  exact ⟨a, dx, fs, ev, eh, el, p μ1 H1 [] .refl hs1 rfl⟩
end

/-! # != by the own == -/
section
variable {prog : Program} {w : World} {A : Around} {E : Value → Shared → Prop} {s : Shared} {K : PySem.W.Frag} {x C f : Addr} {ox : Obj} {od : Option Obj} {b tb : Value}
theorem ne_slot {Q : Fin → Shared → Prop} (hu : A.units < cLine) (X : K.In s.heap) (I : PySem.W.InstAt s.heap x ox C od) (he : PySem.W.findIn K (.ref C) "__eq__" = some (some (.ref f))) (hf : PySem.W.isFn K (.ref f) = true)
    (h : wpAny (model prog w) A (call (.ref f) [.ref x, b]) (fun v s' => ∃ t, v = .bool t ∧ Q (.done (.ret (.bool (!t)))) s') E s) : wpAny (model prog w) A (Builtin.«object.__ne__» ⟨[.ref x, b], []⟩) Q E s := by
  unfold Builtin.«object.__ne__»
  refine wpAny_bind (m := slotArgs _ _ _) (wpAny_pure ?_)
  refine wpAny_bind (wpAny_cRoomFor hu (wpAny_bind (PySem.W.ifBound_K X I he hf (wpAny_mono h (fun v s' hv => ?_) fun _ _ e => e))))
  obtain ⟨t, rfl, q⟩ := hv
  exact wpAny_bind (m := truthy (.bool t)) (wpAny_truthy_bool (wpAny_pure q))
theorem ne_K {Q : Value → Shared → Prop} (hu : A.units + 1 < cLine) (X : K.In s.heap) (I : PySem.W.InstAt s.heap x ox C od) (hb : PySem.W.Looks (model prog w) s.heap (typeOf b) tb) (hn : PySem.W.notFirst K C tb = true)
    (hs : PySem.W.findIn K (.ref C) "__ne__" = some (some (.builtin "object.__ne__"))) (he : PySem.W.findIn K (.ref C) "__eq__" = some (some (.ref f))) (hf : PySem.W.isFn K (.ref f) = true) (hm : PySem.W.mroIn K C (.type "object") = some true)
    (h : wpAny (model prog w) A.in1 (call (.ref f) [.ref x, b]) (fun v s' => ∃ t, v = .bool t ∧ Q (.bool (!t)) s') E s) : wpAny (model prog w) A (richCompare .NotEq (.ref x) b) Q E s := by
  have SL := PySem.F.cmp_object.ne
  have sub : PySem.W.Looks (model prog w) s.heap (isInstance (.ref x) (.type "object")) true := I.type.andThen (PySem.W.looks_mroIn X hm)
  have run : wpAny (model prog w) A (call (.builtin "object.__ne__") [.ref x, b]) (fun v s' => v ≠ .notImplemented ∧ Q v s') E s := by
    refine wpAny_call (codeAny_call_builtin SL.plain PySem.F.cmpEntry_ne (@PySem.W.check_slot (model prog w) _ _ s "object.__ne__" "object" "__ne__" (.ref x) [b] [] _ PySem.F.cmpKind_ne PySem.F.cmpSplit_ne sub (PySem.F.cmpArgs_ne _ _) ?_))
    exact ne_slot (A := A.in1) (by simpa using hu) X I he hf (wpAny_mono h (fun v s' ⟨t, e, q⟩ => ⟨t, e, by simp, q⟩) fun _ _ e => e)
  have one : wpAny (model prog w) A (tryCompare (.ref x) "__ne__" b) (fun r s' => ∃ v, r = some v ∧ Q v s') E s := by
    have fin : wpAny (model prog w) A (callSpecialIfBound? (.ref x) "__ne__" [b]) (fun r s' => ∃ v, r = some v ∧ v ≠ .notImplemented ∧ Q v s') E s := by
      unfold callSpecialIfBound? bindSpecialIfBound?
      refine wpAny_holding (wpAny_bind (wpAny_bind (wpAny_bind (I.type.here ((PySem.W.looks_findIn X hs).here ?_)))))
      dsimp only
      rw [SL.bind]
      refine wpAny_bind (wpAny_askSetting (wpAny_ite ?_))
      have z : wpAny (model prog w) A (call (.builtin "object.__ne__") ([.ref x] ++ [b]) >>= fun v => pure (some v)) (fun r s' => ∃ v, r = some v ∧ v ≠ .notImplemented ∧ Q v s') E s := wpAny_bind (wpAny_mono run (fun v s' q => wpAny_pure ⟨v, rfl, q⟩) fun _ _ e => e)
      split
      · exact wpAny_bind (wpAny_pure (wpAny_pure z))
      · exact wpAny_tryCatch (wpAny_bind (wpAny_pure (wpAny_pure z)))
    unfold tryCompare
    refine wpAny_bind (wpAny_mono fin (fun r s' q => ?_) fun _ _ e => e)
    obtain ⟨v, rfl, nv, q⟩ := q
    cases v <;> first | exact (nv rfl).elim | exact wpAny_pure ⟨_, rfl, q⟩
  unfold richCompare
  simp only [oneThing_ref]
  refine wpAny_holding (wpAny_bind (wpAny_cRoomFor (by omega) (wpAny_bind (I.type.here (wpAny_bind (hb.here ?_))))))
  split
  · rename_i q
    have e : PySem.W.subIn K tb (.ref C) = some false := by
      rcases Bool.or_eq_true_iff.mp hn with e | e
      · rw [beq_iff_eq.mp e] at q; simp at q
      · exact beq_iff_eq.mp e
    refine wpAny_bind ((PySem.W.looks_subIn X e).here ?_)
    exact wpAny_bind (wpAny_mono one (fun r s' ⟨v, er, q⟩ => by subst er; exact wpAny_pure q) fun _ _ e => e)
  · exact wpAny_bind (wpAny_pure (wpAny_bind (wpAny_mono one (fun r s' ⟨v, er, q⟩ => by subst er; exact wpAny_pure q) fun _ _ e => e)))
end
def rOwnN (C : Addr) (sp : Sp) : R2 := fun x y H Q => ∃ a b dx dy fs gs, x = .ref a ∧ y = .ref b ∧ H a = some (.ins C dx fs) ∧ H b = some (.ins C dy gs) ∧ sp [.ref a, .ref b] H (fun v G => ∃ t : Bool, v = .bl t ∧ Q (.bl (!t)) G) (fun _ _ _ => False)
theorem op_ownN {X : Cx} {CX : CXT} {C f : Addr} {fd : FuncData} {ps : List Str} {n : Nat} {sp : Sp} (F : FnOk X.prog X.w X.K X.mg X.base CX n f fd ps sp) (hr : Room (n + 1) X.A) (hs : PySem.W.findIn X.K (.ref C) "__ne__" = some (some (.builtin "object.__ne__"))) (hm : PySem.W.mroIn X.K C (.type "object") = some true)
    (he : PySem.W.findIn X.K (.ref C) "__eq__" = some (some (.ref f))) (hi : PySem.W.isFn X.K (.ref f) = true) (hb : Binds X.K fd ps []) (hx : Passes CX X (fun _ _ _ => False)) : OpR X (compareOp .NotEq) (rOwnN C sp) := by
  intro pins s σ H x y v u Q I rx ry ⟨a, b, dx, dy, fs, gs, ex, ey, ha, hb2, hsp⟩
  subst ex; subst ey
  cases rx; cases ry
  obtain ⟨_, K1, _⟩ := ins_get I.hok ha
  obtain ⟨_, K2, _⟩ := ins_get I.hok hb2
  obtain ⟨_, K1, _⟩ := K1.look
  obtain ⟨_, K2, _⟩ := K2.look
  refine (?_ : wpAny (model X.prog X.w) X.A (richCompare .NotEq (.ref a) (.ref b)) (EP X pins σ Q) X.xe s)
  refine ne_K (tb := .ref C) (by have := hr.un; omega) I.kIn K1 K2.type (by simp [PySem.W.notFirst]) hs he hi hm ?_
  have lens : 2 = ps.length := F.len _ _ _ _ hsp
  have rels : Vals [V.ref a, V.ref b] [Value.ref a, Value.ref b] := .cons rfl (.cons rfl .nil)
  have bnd := hb s [.ref a, .ref b] I.kIn (by simpa using lens)
  refine wpAny_call (codeAny_mono (F.run X.A.in1 X.stack s H ⟨[.ref a, .ref b], []⟩ _ _ _ _ hr.in1 I.env0.in1 (by simpa using bnd) rels hsp) fun r t hq => ?_)
  match r, hq with
  | .error e, hq => exact hx pins σ H s e t I hq
  | .ok (.ret w), hq =>
    obtain ⟨z, G, J, rz, k, ez, q⟩ := I.after hq
    subst ez
    cases rz
    exact ⟨k, rfl, .bl (!k), G, J, rfl, q⟩
  | .ok .next, hq => exact False.elim hq
  | .ok .brk, hq => exact False.elim hq
  | .ok .cont, hq => exact False.elim hq
/-- what != by an own == wants of a class -/
structure NeF (G : GX) (c : Str) : Prop where
  ex : ∀ C, G.mg c = some (.ref C) → PySem.W.findIn G.K (.ref C) "__ne__" = some (some (.builtin "object.__ne__")) ∧ PySem.W.mroIn G.K C (.type "object") = some true
def blNR (r : R D) : R D := match r with
  | .ok (.bl b) st => .ok (.bl (!b)) st
  | _ => .bad
noncomputable def neI (c : Str) (m : List D → Store → R D) (x y : D) (st : Store) : R D := match x, y with
  | .ref n, .ref j => (match st[n]?, st[j]? with
    | some (.ins c1 _), some (.ins c2 _) => if c1 = c ∧ c2 = c then blNR (gcR st (m [.ref n, .ref j] st)) else .bad
    | _, _ => neD (.ref n) (.ref j) st)
  | x, y => neD x y st
theorem neIA {G : GX} {c : Str} {m : List D → Store → R D} {C : Addr} (hC : G.mg c = some (.ref C)) : OpA G (neI c m) (fun x y H Q => rOwnN C (spA G m 2) x y H Q ∨ rNeD G.K x y H Q) := by
  intro W σ μ H st x y v u Q hs rx ry p
  unfold neI at p
  split at p
  · rename_i n j
    split at p
    · rename_i c1 f1 c2 f2 e1 e2
      split at p
      · rename_i hc
        obtain ⟨rfl, rfl⟩ := hc
        obtain ⟨a, ea, rfl⟩ := rx
        obtain ⟨b, eb, rfl⟩ := ry
        obtain ⟨_, h1, C1, dx, vs, rfl, m1, _⟩ := hs.obj n a _ ea e1
        obtain ⟨_, h2, C2, dy, us, rfl, m2, _⟩ := hs.obj j b _ eb e2
        rw [hC] at m1 m2
        cases m1; cases m2
        refine .inl ⟨a, b, dx, dy, vs, us, rfl, rfl, h1, h2, μ, st, [.ref n, .ref j], hs, ⟨_, _, rfl, ⟨a, ea, rfl⟩, _, _, rfl, ⟨b, eb, rfl⟩, rfl⟩, ?_, rfl⟩
        refine Post.gc hs ?_
        revert p
        cases gcR st (m [.ref n, .ref j] st) with
        | ok d st' =>
          intro p
          cases d with
          | bl k => exact fun μ' H' z e hs' r => ⟨k, r, p μ' H' (.bl (!k)) e hs' rfl⟩
          | _ => exact p.elim
        | exc x' st' => intro p; exact p.elim
        | bad => intro p; exact p.elim
      · exact p.elim
    · exact .inr (neA W σ μ H st _ _ v u Q hs rx ry p)
  · exact .inr (neA W σ μ H st _ _ v u Q hs rx ry p)
section
variable {X : Cx} {W : WX} {a b e : Expr} {fa fb fe : EF} {pos : Pos} {lv k : Nat}
theorem ae_neI {c : Str} {m : List D → Store → R D} (F : EqA (gx X) X.prog X.w X.base k c m) (N : NeF (gx X) c) (cx : Ctx X W lv) (ha : AE X W a fa) (hb : AE X W b fb) (hk : k + 1 ≤ lv := by decide) : AE X W (.Compare a [.NotEq] [b] pos) (e2 (neI c m) fa fb) := by
  obtain ⟨C, f, fd, ps, F, hC, h1, h2, h3⟩ := F.ex
  obtain ⟨n1, n2⟩ := N.ex C hC
  exact ae_cmp (OpR_or (op_ownN F (cx.room.mono hk) n1 n2 h1 h2 h3 (fun pins σ H s e s' I z => by obtain ⟨_, _, _, _, _, _, _, _, _, _, _, _, z⟩ := z; exact z.elim)) (op_neD cx.room.units)) (neIA hC) ha hb (nomark _)
theorem at_neI {c : Str} {m : List D → Store → R D} (F : EqA (gx X) X.prog X.w X.base k c m) (N : NeF (gx X) c) (cx : Ctx X W lv) (ha : AE X W a fa) (hb : AE X W b fb) (hk : k + 1 ≤ lv := by decide) : AT X W (.Compare a [.NotEq] [b] pos) (bB (e2 (neI c m) fa fb)) := by
  obtain ⟨C, f, fd, ps, F, hC, h1, h2, h3⟩ := F.ex
  obtain ⟨n1, n2⟩ := N.ex C hC
  exact at_cmp (OpR_or (op_ownN F (cx.room.mono hk) n1 n2 h1 h2 h3 (fun pins σ H s e s' I z => by obtain ⟨_, _, _, _, _, _, _, _, _, _, _, _, z⟩ := z; exact z.elim)) (op_neD cx.room.units)) (neIA hC) ha hb (nomark _)
end
theorem neF_of {K : PySem.W.Frag} {h : Heap} {mg : Str → Option Value} {x : Str} (X : K.In h) (N : h.Ns mainGlobals mg) {C : Addr} (aC : PySem.W.nsIn K mainGlobals x = some (some (.ref C)))
    (n1 : PySem.W.findIn K (.ref C) "__ne__" = some (some (.builtin "object.__ne__"))) (n2 : PySem.W.mroIn K C (.type "object") = some true) : NeF ⟨K, mg⟩ x := ⟨fun C' hm => by
      have e := (PySem.W.mg_of X N aC).symm.trans hm
      cases e
      exact ⟨n1, n2⟩⟩
/-! # defs of a class as ties -/
def MetF (G : GX) (c x qual : Str) (st : Stmt) : Prop := ∃ C f fd, G.mg c = some (.ref C) ∧ Cls G.K C ∧ Meth G.K C x f ∧ Fun G.K x qual st f fd
section
variable {G : GX} {P : Program} {w : World} {base : Heap}
theorem DefA.of {c x qual : Str} {st : Stmt} {N ps : List Str} {k : Nat} {body : SF} (T : MetF G c x qual st) (S : FnScope N ps (defScope st)) (hb : ∀ f fd, Fun G.K x qual st f fd → Binds G.K fd ps [])
    (h : ∀ (f : Addr) (cdv : Value) (A : Around) (outer : List Env) (s : Shared) (H : Hp) (E : XK),
      Ctx (cxOf (L2.CX P w) P w G.K G.mg base N qual (defScope st) f cdv A outer s H E) (fun C od _ H' => E C od H') k → ASs (cxOf (L2.CX P w) P w G.K G.mg base N qual (defScope st) f cdv A outer s H E) (fun C od _ H' => E C od H') (defBody st) body) :
    DefA G P w base (k + 1) c x ps.length (runDef N.length body) := by
  obtain ⟨C, f, fd, hm, c1, c2, F⟩ := T
  exact ⟨C, f, fd, ps, FnOk.ofA F S (h f), hm, c1, c2, hb f fd F⟩
end
theorem metF_of {K : PySem.W.Frag} {h : Heap} {mg : Str → Option Value} {c x qual : Str} {st : Stmt} (X : K.In h) (N : h.Ns mainGlobals mg) {C f : Addr} {od an : Option Addr} {sl : Array (Option Value)} {oc kV dc pm cd ct : Value}
    (aC : PySem.W.nsIn K mainGlobals c = some (some (.ref C))) (pg : PySem.W.plainGet K C Str.empty = true) (hd : PySem.W.hasDictIn K C = true) (po : PySem.W.plainOver K C = true) (sa : PySem.W.findIn K (.ref C) "__setattr__" = some (some (.builtin "object.__setattr__")))
    (a1 : PySem.W.findIn K (.ref C) x = some (some (.ref f))) (i1 : PySem.W.isFn K (.ref f) = true)
    (l1 : K.lookup f = some ⟨oc, od, .func (PySem.W.fnOf x qual (defArgs st) (defBody st) (defScope st) .none kV dc pm an cd ct), sl⟩) (c1 : PySem.W.codeIn K cd qual = true) (k1 : PySem.W.keepIn K (.ref f) = true) : MetF ⟨K, mg⟩ c x qual st :=
  ⟨C, f, _, PySem.W.mg_of X N aC, ⟨pg, hd, po, sa⟩, ⟨a1, i1, k1⟩, fun_mk (st := st) l1 c1 k1⟩
end TK

set_option Elab.async false
set_option linter.all false
set_option maxRecDepth 100000
set_option maxHeartbeats 4000000
namespace TK
open PySem PySem.Spec
open PyProof.Rows hiding St
open L2
/-! # pairs of an instance and plain data compared -/
section
variable {prog : Program} {w : World} {A : Around} {E : Value → Shared → Prop} {R : Result → Shared → Prop}
theorem tup2_ne {l b : Addr} {x1 x2 y1 y2 : Value} {n n2 : Nat} {dd dd2 : Option Addr} {sl sl2 : Array (Option Value)} {s : Shared}
    (hl : s.heap.get? l = some { cls := .type "tuple", dict := dd, data := .seq #[x1, x2] n, slots := sl }) (hb : s.heap.get? b = some { cls := .type "tuple", dict := dd2, data := .seq #[y1, y2] n2, slots := sl2 })
    (h : wpAny (model prog w) A.in1 (eqBool x1 y1) (fun r s1 => r = true ∧ wpAny (model prog w) A.in1 (eqBool x2 y2) (fun r s2 => r = true ∧ R (.ok (.ret (.bool false))) s2) (fun e s' => R (.error e) s') s1) (fun e s' => R (.error e) s') s) :
    wpAny (model prog w) A.in1 (Builtin.«tuple.__ne__» ⟨[.ref l, .ref b], []⟩) (GQ.FinOf prog w A R) (fun e s' => R (.error e) s') s := by
  have f2 := AutoSeq1.sub_tuple_tuple
  obtain ⟨hp, g, d, tk, os⟩ := s
  have w1 := h
  wp_walk using wpAny_loadPart' hl, wpAny_loadPart' hb, wpAny_forIn_list _ (fun rest b s' => b.1 = none ∧ ((rest = [(x1, y1), (x2, y2)] ∧ wpAny (model prog w) A.in1 (eqBool x1 y1) (fun r s1 => r = true ∧ wpAny (model prog w) A.in1 (eqBool x2 y2) (fun r s2 => r = true ∧ R (.ok (.ret (.bool false))) s2) (fun e s' => R (.error e) s') s1) (fun e s' => R (.error e) s') s') ∨
    (rest = [(x2, y2)] ∧ wpAny (model prog w) A.in1 (eqBool x2 y2) (fun r s2 => r = true ∧ R (.ok (.ret (.bool false))) s2) (fun e s' => R (.error e) s') s') ∨ (rest = [] ∧ R (.ok (.ret (.bool false))) s'))) _
  case turn =>
    rintro ⟨y, x⟩ rest b s' ⟨hb', hz⟩
    rcases hz with ⟨hz, q⟩ | ⟨hz, q⟩ | ⟨hz, q⟩
    · cases hz
      refine wpAny_bind (wpAny_mono q (fun r s2 q2 => ?_) fun _ _ e => e)
      obtain ⟨rfl, q2⟩ := q2
      wp_walk
      exact ⟨rfl, .inr (.inl ⟨rfl, q2⟩)⟩
    · cases hz
      refine wpAny_bind (wpAny_mono q (fun r s2 q2 => ?_) fun _ _ e => e)
      obtain ⟨rfl, q2⟩ := q2
      wp_walk
      exact ⟨rfl, .inr (.inr ⟨rfl, q2⟩)⟩
    · cases hz
  case fin =>
    rintro ⟨b1, b2⟩ s' ⟨hb', hz⟩
    simp only at hb'
    subst hb'
    rcases hz with ⟨hz, q⟩ | ⟨hz, q⟩ | ⟨_, q⟩
    · cases hz
    · cases hz
    · wp_walk
      simpa [Builtin.Tuple.tupleCompareSizes] using q
  case h => exact ⟨rfl, .inl ⟨rfl, w1⟩⟩
theorem tup2_eq {l b : Addr} {x1 x2 y1 y2 : Value} {n n2 : Nat} {dd dd2 : Option Addr} {sl sl2 : Array (Option Value)} {s : Shared}
    (hl : s.heap.get? l = some { cls := .type "tuple", dict := dd, data := .seq #[x1, x2] n, slots := sl }) (hb : s.heap.get? b = some { cls := .type "tuple", dict := dd2, data := .seq #[y1, y2] n2, slots := sl2 })
    (h : wpAny (model prog w) A.in1 (eqBool x1 y1) (fun r s1 => r = true ∧ wpAny (model prog w) A.in1 (eqBool x2 y2) (fun r s2 => r = true ∧ R (.ok (.ret (.bool true))) s2) (fun e s' => R (.error e) s') s1) (fun e s' => R (.error e) s') s) :
    wpAny (model prog w) A.in1 (Builtin.«tuple.__eq__» ⟨[.ref l, .ref b], []⟩) (GQ.FinOf prog w A R) (fun e s' => R (.error e) s') s := by
  have f2 := AutoSeq1.sub_tuple_tuple
  obtain ⟨hp, g, d, tk, os⟩ := s
  have w1 := h
  wp_walk using wpAny_loadPart' hl, wpAny_loadPart' hb, wpAny_forIn_list _ (fun rest b s' => b.1 = none ∧ ((rest = [(x1, y1), (x2, y2)] ∧ wpAny (model prog w) A.in1 (eqBool x1 y1) (fun r s1 => r = true ∧ wpAny (model prog w) A.in1 (eqBool x2 y2) (fun r s2 => r = true ∧ R (.ok (.ret (.bool true))) s2) (fun e s' => R (.error e) s') s1) (fun e s' => R (.error e) s') s') ∨
    (rest = [(x2, y2)] ∧ wpAny (model prog w) A.in1 (eqBool x2 y2) (fun r s2 => r = true ∧ R (.ok (.ret (.bool true))) s2) (fun e s' => R (.error e) s') s') ∨ (rest = [] ∧ R (.ok (.ret (.bool true))) s'))) _
  case turn =>
    rintro ⟨y, x⟩ rest b s' ⟨hb', hz⟩
    rcases hz with ⟨hz, q⟩ | ⟨hz, q⟩ | ⟨hz, q⟩
    · cases hz
      refine wpAny_bind (wpAny_mono q (fun r s2 q2 => ?_) fun _ _ e => e)
      obtain ⟨rfl, q2⟩ := q2
      wp_walk
      exact ⟨rfl, .inr (.inl ⟨rfl, q2⟩)⟩
    · cases hz
      refine wpAny_bind (wpAny_mono q (fun r s2 q2 => ?_) fun _ _ e => e)
      obtain ⟨rfl, q2⟩ := q2
      wp_walk
      exact ⟨rfl, .inr (.inr ⟨rfl, q2⟩)⟩
    · cases hz
  case fin =>
    rintro ⟨b1, b2⟩ s' ⟨hb', hz⟩
    simp only at hb'
    subst hb'
    rcases hz with ⟨hz, q⟩ | ⟨hz, q⟩ | ⟨_, q⟩
    · cases hz
    · cases hz
    · wp_walk
      simpa [Builtin.Tuple.tupleCompareSizes] using q
  case h => exact ⟨rfl, .inl ⟨rfl, w1⟩⟩
theorem rc2_ne {l b : Addr} {x1 x2 y1 y2 : Value} {s : Shared} {Q : Value → Shared → Prop} (hu : A.units < cLine) (hl : s.heap.IsTuple l #[x1, x2]) (hb : s.heap.IsTuple b #[y1, y2])
    (h : wpAny (model prog w) A.in1 (eqBool x1 y1) (fun r s1 => r = true ∧ wpAny (model prog w) A.in1 (eqBool x2 y2) (fun r s2 => r = true ∧ Q (.bool false) s2) E s1) E s) : wpAny (model prog w) A (richCompare .NotEq (.ref l) (.ref b)) Q E s := by
  obtain ⟨⟨_, dd, _, sl⟩, ho, hc, n, hd⟩ := id hl
  obtain ⟨⟨_, dd2, _, sl2⟩, ho2, hc2, n2, hd2⟩ := id hb
  dsimp only at hc hd hc2 hd2
  subst hc hd hc2 hd2
  refine wpAny_richCompare_same_room (op := .NotEq) ⟨_, ho, rfl⟩ ⟨_, ho2, rfl⟩ F.slot_tuple_ne (GQ.call_here F.slot_tuple_ne ⟨_, ho, rfl⟩ F.entry_tuple_ne (F.args_tuple_ne_2 _ _) ?_) hu
  exact tup2_ne (R := wants (fun v s' => v ≠ .notImplemented ∧ Q v s') E) ho ho2 (wpAny_mono h (fun r s1 q => ⟨q.1, wpAny_mono q.2 (fun r s2 q => ⟨q.1, (fun x => nomatch x), q.2⟩) fun _ _ e => e⟩) fun _ _ e => e)
theorem rc2_eq {l b : Addr} {x1 x2 y1 y2 : Value} {s : Shared} {Q : Value → Shared → Prop} (hu : A.units < cLine) (hl : s.heap.IsTuple l #[x1, x2]) (hb : s.heap.IsTuple b #[y1, y2])
    (h : wpAny (model prog w) A.in1 (eqBool x1 y1) (fun r s1 => r = true ∧ wpAny (model prog w) A.in1 (eqBool x2 y2) (fun r s2 => r = true ∧ Q (.bool true) s2) E s1) E s) : wpAny (model prog w) A (richCompare .Eq (.ref l) (.ref b)) Q E s := by
  obtain ⟨⟨_, dd, _, sl⟩, ho, hc, n, hd⟩ := id hl
  obtain ⟨⟨_, dd2, _, sl2⟩, ho2, hc2, n2, hd2⟩ := id hb
  dsimp only at hc hd hc2 hd2
  subst hc hd hc2 hd2
  refine wpAny_richCompare_same_room (op := .Eq) ⟨_, ho, rfl⟩ ⟨_, ho2, rfl⟩ F.slot_tuple_eq (GQ.call_here F.slot_tuple_eq ⟨_, ho, rfl⟩ F.entry_tuple_eq (F.args_tuple_eq_2 _ _) ?_) hu
  exact tup2_eq (R := wants (fun v s' => v ≠ .notImplemented ∧ Q v s') E) ho ho2 (wpAny_mono h (fun r s1 q => ⟨q.1, wpAny_mono q.2 (fun r s2 q => ⟨q.1, (fun x => nomatch x), q.2⟩) fun _ _ e => e⟩) fun _ _ e => e)
end
abbrev D2 (K : PySem.W.Frag) : Eqv := DTup K (DTup K DFlat)
def rPair (C : Addr) (K : PySem.W.Frag) (sp : Sp) (r : Bool) : R2 := fun x y H Q => ∃ a b n j p q dx dy fs gs, x = .ref a ∧ y = .ref b ∧ SqT K H a [.ref n, p] ∧ SqT K H b [.ref j, q] ∧ H n = some (.ins C dx fs) ∧ H j = some (.ins C dy gs) ∧
  (n = j → D2 K p q H ∧ ∀ G, L2.Ext H G → Q (.bl r) G) ∧ (n ≠ j → sp [.ref n, .ref j] H (fun v G => v = .bl true ∧ D2 K p q G ∧ ∀ G', L2.Ext G G' → Q (.bl r) G') (fun _ _ _ => False))
theorem eqG_D2 {X : Cx} : EqG X 2 (D2 X.K) := eqG_tup (mon_tup mon_flat) (eqG_tup mon_flat eqG_flat)
theorem op_pair {X : Cx} {CX : CXT} {C f : Addr} {fd : FuncData} {ps : List Str} {n : Nat} {sp : Sp} (F : FnOk X.prog X.w X.K X.mg X.base CX n f fd ps sp) (hr : Room (n + 1) X.A) (hr3 : Room 3 X.A)
    (he : PySem.W.findIn X.K (.ref C) "__eq__" = some (some (.ref f))) (hi : PySem.W.isFn X.K (.ref f) = true) (hb : Binds X.K fd ps []) (hx : Passes CX X (fun _ _ _ => False)) {pins : List (Addr × Obj)} {s : Shared} {σ : St} {H : Hp} {x y : V} {v u : Value} {Q : VK} {r : Bool}
    (I : Inv X pins σ H s) (rx : RelV x v) (ry : RelV y u) (h : rPair C X.K sp r x y H Q) : ∃ a b x1 x2 y1 y2, v = .ref a ∧ u = .ref b ∧ s.heap.IsTuple a #[x1, x2] ∧ s.heap.IsTuple b #[y1, y2] ∧
      wpAny (model X.prog X.w) X.A.in1 (eqBool x1 y1) (fun r1 s1 => r1 = true ∧ wpAny (model X.prog X.w) X.A.in1 (eqBool x2 y2) (fun r2 s2 => r2 = true ∧ EP X pins σ Q (.bool r) s2) X.xe s1) X.xe s := by
  obtain ⟨a, b, n1, j1, p, q, dx, dy, fs, gs, rfl, rfl, ta, tb, ha, hb2, h1, h2⟩ := h
  cases rx; cases ry
  obtain ⟨its, r1, t1, _⟩ := I.tuple ta
  obtain ⟨its2, r2, t2, _⟩ := I.tuple tb
  cases r1 with | cons rn r1 =>
  cases r1 with | cons rp r1 =>
  cases r1
  cases r2 with | cons rj r2 =>
  cases r2 with | cons rq r2 =>
  cases r2
  cases rn; cases rj
  rename_i vp vq
  have sb : Sub X 2 X.A.in1 := ⟨hr3.in1, rfl⟩
  refine ⟨a, b, .ref n1, vp, .ref j1, vq, rfl, rfl, t1, t2, ?_⟩
  by_cases e : n1 = j1
  · subst e
    obtain ⟨d, q2⟩ := h1 rfl
    refine SeqAt.EqAt.same (A := X.A.in1) (s := s) (.ref n1) X.prog X.w X.xe _ ⟨rfl, ?_⟩
    refine wpAny_mono (eqG_D2 X.A.in1 pins s σ H p q _ _ sb I rp rq d) (fun r2 s2 z => ?_) fun _ _ e => e
    obtain ⟨z1, G, J, ex⟩ := z
    exact ⟨z1, .bl r, G, J, rfl, q2 G ex⟩
  · have hsp := h2 e
    obtain ⟨_, K1, _⟩ := ins_get I.hok ha
    obtain ⟨_, K2, _⟩ := ins_get I.hok hb2
    obtain ⟨_, K1, _⟩ := K1.look
    obtain ⟨_, K2, _⟩ := K2.look
    obtain ⟨_, fr⟩ := I.fr
    refine GQ.eqBool_refG e (PySem.W.cmp_K (tb := .ref C) (op := .Eq) hr.in1.units0 fr I.ok.mod.kin K1 K2.type (by simp [PySem.W.notFirst]) he hi ?_)
    have lens : 2 = ps.length := F.len _ _ _ _ hsp
    have rels : Vals [V.ref n1, V.ref j1] [Value.ref n1, Value.ref j1] := .cons rfl (.cons rfl .nil)
    have bnd := hb s [.ref n1, .ref j1] I.kIn (by simpa using lens)
    refine wpAny_call (codeAny_mono (F.run X.A.in1 X.stack s H ⟨[.ref n1, .ref j1], []⟩ _ _ _ _ hr.in1 I.env0.in1 (by simpa using bnd) rels hsp) fun r1 t hq => ?_)
    match r1, hq with
    | .error e, hq => exact hx pins σ H s e t I hq
    | .ok (.ret w), hq =>
      obtain ⟨z, G, J, rz, ez, d, q2⟩ := I.after hq
      subst ez
      cases rz
      refine ⟨true, rfl, rfl, ?_⟩
      refine wpAny_mono (eqG_D2 X.A.in1 pins t σ G p q _ _ sb J rp rq d) (fun r2 s2 z => ?_) fun _ _ e => e
      obtain ⟨z1, G2, J2, ex⟩ := z
      exact ⟨z1, .bl r, G2, J2, rfl, q2 G2 ex⟩
    | .ok .next, hq => exact False.elim hq
    | .ok .brk, hq => exact False.elim hq
    | .ok .cont, hq => exact False.elim hq
/-- a tuple of tuples of ints -/
def ttD (d : D) : Prop := ∃ l : List (List Int), d = .tup (l.map fun xs => .tup (xs.map D.int))
def samePr (c : Str) (m : List D → Store → R D) (x y : D) (st : Store) : Prop := ∃ n j p cf df, x = .tup [.ref n, p] ∧ y = .tup [.ref j, p] ∧ st[n]? = some (.ins c cf) ∧ st[j]? = some (.ins c df) ∧ gcR st (m [.ref n, .ref j] st) = .ok (.bl true) st ∧ ttD p
open Classical in
noncomputable def prP (c : Str) (m : List D → Store → R D) (r : Bool) (x y : D) (st : Store) : R D := if samePr c m x y st then .ok (.bl r) st else .bad
theorem relDs_prs {G : GX} {μ : List Addr} {H : Hp} {E : Eqv} : ∀ {ds : List D} {vs us : List V}, (∀ d ∈ ds, ∀ v u, RelD G μ H d v → RelD G μ H d u → E v u H) → RelDs G μ H ds vs → RelDs G μ H ds us → Prs E vs us H
  | [], _, _, _, r1, r2 => by cases r1; cases r2; exact .nil
  | d :: ds, _, _, h, r1, r2 => by
    obtain ⟨v, vs, rfl, rv, r1⟩ := r1
    obtain ⟨u, us, rfl, ru, r2⟩ := r2
    exact .cons (h d (by simp) v u rv ru) (relDs_prs (fun d hd => h d (by simp [hd])) r1 r2)
theorem ttD_D2 {G : GX} {μ : List Addr} {H : Hp} {p : D} (t : ttD p) {v u : V} (rv : RelD G μ H p v) (ru : RelD G μ H p u) : D2 G.K v u H := by
  obtain ⟨l, rfl⟩ := t
  obtain ⟨a, vs, rfl, sa, rv⟩ := rv
  obtain ⟨b, us, rfl, sb, ru⟩ := ru
  refine ⟨a, b, vs, us, rfl, rfl, .of sa, .of sb, relDs_prs (fun d hd v u rv ru => ?_) rv ru⟩
  obtain ⟨xs, _, rfl⟩ := List.mem_map.mp hd
  obtain ⟨a, vs, rfl, sa, rv⟩ := rv
  obtain ⟨b, us, rfl, sb, ru⟩ := ru
  refine ⟨a, b, vs, us, rfl, rfl, .of sa, .of sb, relDs_prs (fun d hd v u rv ru => ?_) rv ru⟩
  obtain ⟨i, _, rfl⟩ := List.mem_map.mp hd
  cases rv; cases ru
  exact ⟨rfl, rfl, by simp [eqV]⟩
theorem ext_ext {μ : List Addr} {H H' : Hp} (e : L2.Ext H H') : Ext μ H μ H' := ⟨[], by simp, by simp, fun a o h _ => e a o h⟩
theorem HS.exts {G : GX} {μ : List Addr} {H H' : Hp} {st : Store} (h : HS G μ H st) (e : L2.Ext H H') : HS G μ H' st :=
  ⟨h.nd, h.len, fun i a o h1 h2 => by obtain ⟨ho, h3, h4⟩ := h.obj i a o h1 h2; exact ⟨ho, e _ _ h3, HObj.ext h (ext_ext e) h4⟩⟩
theorem prPA {G : GX} {c : Str} {m : List D → Store → R D} {r : Bool} {C : Addr} (hC : G.mg c = some (.ref C)) : OpA G (prP c m r) (fun x y H Q => rPair C G.K (spA G m 2) r x y H Q) := by
  intro W σ μ H st x y v u Q hs rx ry p
  unfold prP at p
  split at p
  · rename_i hp
    obtain ⟨n, j, q, cf, df, rfl, rfl, e1, e2, em, tt⟩ := hp
    obtain ⟨a, vs, rfl, sa, v1, r1, rfl, rn, v2, r2, rfl, rq, e0⟩ := rx
    cases e0
    obtain ⟨b, us, rfl, sb, u1, r1, rfl, rj, u2, r2, rfl, rq2, e0⟩ := ry
    cases e0
    obtain ⟨x1, ex, rfl⟩ := rn
    obtain ⟨y1, ey, rfl⟩ := rj
    obtain ⟨_, h1, C1, dx, fs, rfl, m1, _⟩ := hs.obj n x1 _ ex e1
    obtain ⟨_, h2, C2, dy, gs, rfl, m2, _⟩ := hs.obj j y1 _ ey e2
    rw [hC] at m1 m2
    cases m1; cases m2
    refine ⟨a, b, x1, y1, v2, u2, dx, dy, fs, gs, rfl, rfl, .of sa, .of sb, h1, h2, fun _ => ⟨ttD_D2 tt rq rq2, fun G' e => p μ G' _ (ext_ext e) (hs.exts e) rfl⟩, fun _ => ?_⟩
    refine ⟨μ, st, [.ref n, .ref j], hs, ⟨_, _, rfl, ⟨x1, ex, rfl⟩, _, _, rfl, ⟨y1, ey, rfl⟩, rfl⟩, ?_, rfl⟩
    refine Post.gc hs ?_
    rw [em]
    refine fun μ' H' z e hs' rz => ⟨rz, ttD_D2 tt (RelD.ext hs e _ _ rq) (RelD.ext hs e _ _ rq2), fun G' e2 => p μ' G' _ (e.trans (ext_ext e2)) (hs'.exts e2) rfl⟩
  · exact p.elim
section
variable {X : Cx} {W : WX} {a b e : Expr} {fa fb fe : EF} {pos : Pos} {lv k : Nat}
theorem op_prN {C f : Addr} {fd : FuncData} {ps : List Str} {sp : Sp} {CX : CXT} (F : FnOk X.prog X.w X.K X.mg X.base CX k f fd ps sp) (hr : Room (k + 1) X.A) (hr3 : Room 3 X.A)
    (he : PySem.W.findIn X.K (.ref C) "__eq__" = some (some (.ref f))) (hi : PySem.W.isFn X.K (.ref f) = true) (hb : Binds X.K fd ps []) (hx : Passes CX X (fun _ _ _ => False)) : OpR X (compareOp .NotEq) (rPair C X.K sp false) := by
  intro pins s σ H x y v u Q I rx ry h
  obtain ⟨a, b, x1, x2, y1, y2, rfl, rfl, t1, t2, q⟩ := op_pair F hr hr3 he hi hb hx I rx ry h
  exact rc2_ne hr.units0 t1 t2 q
theorem op_prE {C f : Addr} {fd : FuncData} {ps : List Str} {sp : Sp} {CX : CXT} (F : FnOk X.prog X.w X.K X.mg X.base CX k f fd ps sp) (hr : Room (k + 1) X.A) (hr3 : Room 3 X.A)
    (he : PySem.W.findIn X.K (.ref C) "__eq__" = some (some (.ref f))) (hi : PySem.W.isFn X.K (.ref f) = true) (hb : Binds X.K fd ps []) (hx : Passes CX X (fun _ _ _ => False)) : OpR X (compareOp .Eq) (rPair C X.K sp true) := by
  intro pins s σ H x y v u Q I rx ry h
  obtain ⟨a, b, x1, x2, y1, y2, rfl, rfl, t1, t2, q⟩ := op_pair F hr hr3 he hi hb hx I rx ry h
  exact rc2_eq hr.units0 t1 t2 q
variable {c : Str} {m : List D → Store → R D}
theorem ae_prN (F : EqA (gx X) X.prog X.w X.base k c m) (cx : Ctx X W lv) (ha : AE X W a fa) (hb : AE X W b fb) (hk : k + 1 ≤ lv := by decide) (h3 : 3 ≤ lv := by decide) : AE X W (.Compare a [.NotEq] [b] pos) (e2 (prP c m false) fa fb) := by
  obtain ⟨C, f, fd, ps, F, hC, h1, h2, h3'⟩ := F.ex
  exact ae_cmp (op_prN F (cx.room.mono hk) (cx.room.mono h3) h1 h2 h3' (fun pins σ H s e s' I z => by obtain ⟨_, _, _, _, _, _, _, _, _, _, _, _, z⟩ := z; exact z.elim)) (prPA hC) ha hb (nomark _)
theorem at_prN (F : EqA (gx X) X.prog X.w X.base k c m) (cx : Ctx X W lv) (ha : AE X W a fa) (hb : AE X W b fb) (hk : k + 1 ≤ lv := by decide) (h3 : 3 ≤ lv := by decide) : AT X W (.Compare a [.NotEq] [b] pos) (bB (e2 (prP c m false) fa fb)) := by
  obtain ⟨C, f, fd, ps, F, hC, h1, h2, h3'⟩ := F.ex
  exact at_cmp (op_prN F (cx.room.mono hk) (cx.room.mono h3) h1 h2 h3' (fun pins σ H s e s' I z => by obtain ⟨_, _, _, _, _, _, _, _, _, _, _, _, z⟩ := z; exact z.elim)) (prPA hC) ha hb (nomark _)
theorem ae_prE (F : EqA (gx X) X.prog X.w X.base k c m) (cx : Ctx X W lv) (ha : AE X W a fa) (hb : AE X W b fb) (hk : k + 1 ≤ lv := by decide) (h3 : 3 ≤ lv := by decide) : AE X W (.Compare a [.Eq] [b] pos) (e2 (prP c m true) fa fb) := by
  obtain ⟨C, f, fd, ps, F, hC, h1, h2, h3'⟩ := F.ex
  exact ae_cmp (op_prE F (cx.room.mono hk) (cx.room.mono h3) h1 h2 h3' (fun pins σ H s e s' I z => by obtain ⟨_, _, _, _, _, _, _, _, _, _, _, _, z⟩ := z; exact z.elim)) (prPA hC) ha hb (nomark _)
theorem at_prE (F : EqA (gx X) X.prog X.w X.base k c m) (cx : Ctx X W lv) (ha : AE X W a fa) (hb : AE X W b fb) (hk : k + 1 ≤ lv := by decide) (h3 : 3 ≤ lv := by decide) : AT X W (.Compare a [.Eq] [b] pos) (bB (e2 (prP c m true) fa fb)) := by
  obtain ⟨C, f, fd, ps, F, hC, h1, h2, h3'⟩ := F.ex
  exact at_cmp (op_prE F (cx.room.mono hk) (cx.room.mono h3) h1 h2 h3' (fun pins σ H s e s' I z => by obtain ⟨_, _, _, _, _, _, _, _, _, _, _, _, z⟩ := z; exact z.elim)) (prPA hC) ha hb (nomark _)
end
end TK

set_option Elab.async false
set_option linter.all false
set_option maxRecDepth 100000
set_option maxHeartbeats 4000000
namespace TK
/-! # borders and sheets: the plain law -/
def ris (most : Int) : Int → List Int → Prop
  | _, [] => True
  | lo, x :: xs => lo ≤ x ∧ x ≤ most ∧ ris most x xs
theorem ris_of {m : Int} : ∀ {lo : Int} {xs : List Int}, xs.Pairwise (· ≤ ·) → (∀ x ∈ xs, lo ≤ x ∧ x ≤ m) → ris m lo xs
  | _, [], _, _ => trivial
  | lo, x :: xs, hp, hb => by
    rw [List.pairwise_cons] at hp
    exact ⟨(hb x (by simp)).1, (hb x (by simp)).2, ris_of hp.2 fun y hy => ⟨hp.1 y hy, (hb y (by simp [hy])).2⟩⟩
theorem ris_all {m : Int} : ∀ {lo : Int} {xs : List Int}, ris m lo xs → xs.Pairwise (· ≤ ·) ∧ ∀ x ∈ xs, lo ≤ x ∧ x ≤ m
  | _, [], _ => by simp
  | lo, x :: xs, ⟨h1, h2, h3⟩ => by
    obtain ⟨h4, h5⟩ := ris_all h3
    refine ⟨List.pairwise_cons.mpr ⟨fun y hy => (h5 y hy).1, h4⟩, fun y hy => ?_⟩
    rcases List.mem_cons.mp hy with rfl | hy
    · exact ⟨h1, h2⟩
    · have := h5 y hy
      exact ⟨by omega, this.2⟩
/-- how many stand below b -/
def below (xs : List Int) (b : Int) : Nat := (xs.filter fun x => decide (x < b)).length
def cutsOf (xs : List Int) : List Int := (List.range (xs.length + 1)).map fun (b : Nat) => (below xs b : Int)
theorem below_cons (x : Int) (xs : List Int) (b : Int) : below (x :: xs) b = (if x < b then 1 else 0) + below xs b := by
  unfold below
  by_cases h : x < b <;> simp [List.filter_cons, h] <;> omega
theorem below_app (xs ys : List Int) (b : Int) : below (xs ++ ys) b = below xs b + below ys b := by
  simp [below]
theorem below_zero {xs : List Int} {b : Int} (h : ∀ x ∈ xs, b ≤ x) : below xs b = 0 := by
  unfold below
  rw [List.length_eq_zero_iff, List.filter_eq_nil_iff]
  intro x hx
  have := h x hx
  simp; omega
theorem below_all {xs : List Int} {b : Int} (h : ∀ x ∈ xs, x < b) : below xs b = xs.length := by
  unfold below
  rw [List.filter_eq_self.mpr]
  intro x hx
  simp [h x hx]
theorem below_le (xs : List Int) (b : Int) : below xs b ≤ xs.length := List.length_filter_le _ _
theorem below_mono : ∀ (xs : List Int) {b c : Int}, b ≤ c → below xs b ≤ below xs c
  | [], _, _, _ => by simp [below]
  | x :: xs, b, c, h => by
    have := below_mono xs h
    rw [below_cons, below_cons]
    by_cases h1 : x < b
    · rw [if_pos h1, if_pos (by omega)]; omega
    · rw [if_neg h1]; split <;> omega
theorem below_lt : ∀ {xs : List Int}, xs.Pairwise (· ≤ ·) → ∀ {i : Nat} {x b : Int}, xs[i]? = some x → (x < b ↔ i < below xs b)
  | [], _, i, x, b, h => by simp at h
  | y :: ys, hp, i, x, b, h => by
    rw [List.pairwise_cons] at hp
    rw [below_cons]
    cases i with
    | zero =>
      have e : y = x := by simpa using h
      subst e
      by_cases hy : y < b
      · simp [hy]; omega
      · have := below_zero (xs := ys) (b := b) fun z hz => by have := hp.1 z hz; omega
        simp [hy, this]
    | succ i =>
      have h' : ys[i]? = some x := by simpa using h
      have hm : x ∈ ys := List.mem_of_getElem? h'
      have ih := below_lt hp.2 (b := b) h'
      by_cases hy : y < b
      · rw [if_pos hy, ih]; omega
      · have := below_zero (xs := ys) (b := b) fun z hz => by have := hp.1 z hz; omega
        have hx := hp.1 x hm
        rw [if_neg hy, this]
        constructor
        · intro z; omega
        · intro z; omega
structure Cuts (cs : List Int) (n : Nat) : Prop where
  len : cs.length = n + 1
  zero : cs.getD 0 0 = 0
  last : cs.getD n 0 = n
  up : ∀ e, e < n → cs.getD e 0 ≤ cs.getD (e + 1) 0
theorem cutsOf_get {xs : List Int} {e : Nat} (h : e ≤ xs.length) : (cutsOf xs).getD e 0 = below xs e := by
  unfold cutsOf
  rw [List.getD_eq_getElem?_getD, List.getElem?_map, List.getElem?_range (by omega)]
  rfl
theorem cutsOf_cuts {xs : List Int} (hr : ris ((xs.length : Int) - 1) 0 xs) : Cuts (cutsOf xs) xs.length := by
  obtain ⟨_, h2⟩ := ris_all hr
  refine ⟨by simp [cutsOf], ?_, ?_, fun e he => ?_⟩
  · rw [cutsOf_get (Nat.zero_le _), below_zero]
    · rfl
    · intro x hx; exact (h2 x hx).1
  · rw [cutsOf_get (Nat.le_refl _), below_all]
    intro x hx
    have := (h2 x hx).2
    omega
  · rw [cutsOf_get (by omega), cutsOf_get (by omega)]
    have := below_mono xs (b := (e : Int)) (c := ((e + 1 : Nat) : Int)) (by omega)
    omega
def pre (cs : List Int) : Nat → List Int
  | 0 => []
  | e + 1 => pre cs e ++ List.replicate (cs.getD (e + 1) 0 - cs.getD e 0).toNat (e : Int)
theorem pre_len {cs : List Int} {n : Nat} (h : Cuts cs n) : ∀ {i : Nat}, i ≤ n → ((pre cs i).length : Int) = cs.getD i 0
  | 0, _ => by rw [h.zero]; rfl
  | i + 1, hi => by
    have ih := pre_len h (i := i) (by omega)
    have := h.up i (by omega)
    simp only [pre, List.length_append, List.length_replicate]
    omega
theorem pre_mem {cs : List Int} : ∀ {i : Nat} {x : Int}, x ∈ pre cs i → 0 ≤ x ∧ x < i
  | 0, x, h => by simp [pre] at h
  | i + 1, x, h => by
    rw [pre, List.mem_append] at h
    rcases h with h | h
    · have := pre_mem h; omega
    · have := (List.mem_replicate.mp h).2; omega
theorem pre_pair {cs : List Int} : ∀ i : Nat, (pre cs i).Pairwise (· ≤ ·)
  | 0 => by simp [pre]
  | i + 1 => by
    rw [pre, List.pairwise_append]
    refine ⟨pre_pair i, ?_, fun x hx y hy => ?_⟩
    · rw [List.pairwise_replicate]; right; omega
    · have := (List.mem_replicate.mp hy).2
      have := (pre_mem hx).2
      omega
theorem pre_below {cs : List Int} {b : Nat} : ∀ {i : Nat}, b ≤ i → below (pre cs i) b = (pre cs b).length
  | 0, h => by
    obtain rfl : b = 0 := by omega
    simp [pre, below]
  | i + 1, h => by
    by_cases e : b = i + 1
    · subst e
      exact below_all fun x hx => (pre_mem hx).2
    · have ih := pre_below (cs := cs) (b := b) (i := i) (by omega)
      rw [pre, below_app, ih, below_zero (xs := List.replicate _ _)]
      · rfl
      · intro x hx
        have := (List.mem_replicate.mp hx).2
        omega
theorem pre_ris {cs : List Int} {n : Nat} (h : Cuts cs n) : ris ((n : Int) - 1) 0 (pre cs n) :=
  ris_of (pre_pair n) fun x hx => by have := pre_mem hx; omega
theorem pre_length {cs : List Int} {n : Nat} (h : Cuts cs n) : (pre cs n).length = n := by
  have := pre_len h (Nat.le_refl n)
  rw [h.last] at this
  omega
theorem cutsOf_pre {cs : List Int} {n : Nat} (h : Cuts cs n) : cutsOf (pre cs n) = cs := by
  apply List.ext_getElem?
  intro i
  unfold cutsOf
  rw [pre_length h, List.getElem?_map]
  by_cases hi : i < n + 1
  · rw [List.getElem?_range hi, List.getElem?_eq_getElem (by rw [h.len]; exact hi)]
    have h1 := pre_below (cs := cs) (b := i) (i := n) (by omega)
    have h2 := pre_len h (i := i) (by omega)
    rw [List.getD_eq_getElem?_getD, List.getElem?_eq_getElem (by rw [h.len]; exact hi)] at h2
    simp only [Option.map_some, Option.some.injEq]
    rw [h1, h2]
    rfl
  · rw [List.getElem?_eq_none (by simp; omega), List.getElem?_eq_none (by rw [h.len]; omega)]
    rfl
theorem pre_cutsOf {xs : List Int} (hr : ris ((xs.length : Int) - 1) 0 xs) : pre (cutsOf xs) xs.length = xs := by
  obtain ⟨hp, hb⟩ := ris_all hr
  have key : ∀ i, i ≤ xs.length → pre (cutsOf xs) i = xs.take (below xs i) := by
    intro i
    induction i with
    | zero =>
      intro _
      rw [below_zero]
      · rfl
      · intro x hx; exact (hb x hx).1
    | succ i ih =>
      intro hi
      have hm := below_mono xs (b := (i : Int)) (c := ((i + 1 : Nat) : Int)) (by omega)
      have hl := below_le xs ((i + 1 : Nat) : Int)
      rw [pre, ih (by omega), cutsOf_get (by omega), cutsOf_get (by omega)]
      obtain ⟨d, hd⟩ : ∃ d, below xs ((i + 1 : Nat) : Int) = below xs i + d := ⟨_, (Nat.add_sub_cancel' hm).symm⟩
      rw [hd, List.take_add]
      congr 1
      have e : ((((below xs i + d : Nat) : Int) - ((below xs i : Nat) : Int)).toNat) = d := by omega
      rw [e]
      symm
      rw [List.eq_replicate_iff]
      refine ⟨by simp; omega, fun y hy => ?_⟩
      obtain ⟨j, hj, e⟩ := List.getElem_of_mem hy
      simp only [List.length_take, List.length_drop] at hj
      rw [List.getElem_take, List.getElem_drop] at e
      have g : xs[below xs i + j]? = some y := by rw [← e]; exact List.getElem?_eq_getElem _
      have a1 := below_lt hp (b := ((i + 1 : Nat) : Int)) g
      have a2 := below_lt hp (b := (i : Int)) g
      rw [hd] at a1
      have b1 : y < ((i + 1 : Nat) : Int) := a1.mpr (by omega)
      have b2 : ¬ y < (i : Int) := fun z => by have := a2.mp z; omega
      omega
  rw [key _ (Nat.le_refl _), below_all]
  · simp
  · intro x hx
    have := (hb x hx).2
    omega
theorem cuts_ris {cs : List Int} {n : Nat} (h : Cuts cs n) : ris n 0 cs := by
  have mono : ∀ d e, e + d ≤ n → cs.getD e 0 ≤ cs.getD (e + d) 0 := by
    intro d
    induction d with
    | zero => intro e _; simp
    | succ d ih =>
      intro e he
      have h1 := ih e (by omega)
      have h2 := h.up (e + d) (by omega)
      rw [show e + (d + 1) = e + d + 1 by omega]
      omega
  refine ris_of ?_ fun x hx => ?_
  · rw [List.pairwise_iff_getElem]
    intro i j hi hj hij
    have hl := h.len
    have := mono (j - i) i (by omega)
    rw [show i + (j - i) = j by omega, List.getD_eq_getElem?_getD, List.getD_eq_getElem?_getD, List.getElem?_eq_getElem hi, List.getElem?_eq_getElem hj] at this
    exact this
  · obtain ⟨i, hi, e⟩ := List.getElem_of_mem hx
    have hl := h.len
    have e' : cs.getD i 0 = x := by rw [List.getD_eq_getElem?_getD, List.getElem?_eq_getElem hi, e]; rfl
    have h1 := mono i 0 (by omega)
    have h2 := mono (n - i) i (by omega)
    rw [show i + (n - i) = n by omega, h.last] at h2
    rw [Nat.zero_add, h.zero] at h1
    omega
theorem cut_own {xs : List Int} (hp : xs.Pairwise (· ≤ ·)) {o e : Nat} {x : Int} (g : xs[o]? = some x) : (x = (e : Int)) ↔ (below xs e : Int) ≤ o ∧ (o : Int) < below xs ((e + 1 : Nat) : Int) := by
  have a1 := below_lt hp (b := ((e + 1 : Nat) : Int)) g
  have a2 := below_lt hp (b := (e : Int)) g
  constructor
  · intro z
    have : ¬ x < (e : Int) := by omega
    have h2 : x < ((e + 1 : Nat) : Int) := by omega
    exact ⟨by have := mt a2.mpr this; omega, by have := a1.mp h2; omega⟩
  · intro ⟨z1, z2⟩
    have b1 : x < ((e + 1 : Nat) : Int) := a1.mpr (by omega)
    have b2 : ¬ x < (e : Int) := fun z => by have := a2.mp z; omega
    omega
end TK

set_option Elab.async false
set_option linter.all false
set_option maxRecDepth 100000
set_option maxHeartbeats 4000000
namespace TK
open PySem PySem.Spec
open PyProof.Rows hiding St
open L2
noncomputable def m_is_integer : List D → Store → R D := hid (runDef 1 (sRet (eAnd (eIsi ["int"] (eVar 0)) (eNot (eIsi ["bool"] (eVar 0))))))
theorem m_is_integer_eq : m_is_integer = runDef 1 (sRet (eAnd (eIsi ["int"] (eVar 0)) (eNot (eIsi ["bool"] (eVar 0))))) := hid_eq _

noncomputable def m_is_within : List D → Store → R D := hid (runDef 3 (sRet (eAnd (eCall m_is_integer (lCons (eVar 0) lNil)) (eChain leD leD (eVar 1) (eVar 0) (eVar 2)))))
theorem m_is_within_eq : m_is_within = runDef 3 (sRet (eAnd (eCall m_is_integer (lCons (eVar 0) lNil)) (eChain leD leD (eVar 1) (eVar 0) (eVar 2)))) := hid_eq _

noncomputable def m_is_triple : List D → Store → R D := hid (runDef 1 (sRet (eAnd (eIsi ["tuple"] (eVar 0)) (e2 eqD (eQ lenG (lRd (eVar 0))) (eC (.int 3))))))
theorem m_is_triple_eq : m_is_triple = runDef 1 (sRet (eAnd (eIsi ["tuple"] (eVar 0)) (e2 eqD (eQ lenG (lRd (eVar 0))) (eC (.int 3))))) := hid_eq _

noncomputable def m_is_flag : List D → Store → R D := hid (runDef 1 (sRet (eIsi ["bool"] (eVar 0))))
theorem m_is_flag_eq : m_is_flag = runDef 1 (sRet (eIsi ["bool"] (eVar 0))) := hid_eq _

noncomputable def m_is_row : List D → Store → R D := hid (runDef 2 (sSeq (sIf (bOr (bNot (bTru (eCall m_is_triple (lCons (eVar 1) lNil)))) (bOr (bNot (bTru (eCall m_is_within (lCons (e2 getD (eVar 1) (eC (.int 0))) (lCons (eC (.int 0)) (lCons (e2 subD (eVar 0) (eC (.int 1))) lNil)))))) (bNot (bTru (eCall m_is_within (lCons (e2 getD (eVar 1) (eC (.int 1))) (lCons (eC (.int 0)) (lCons (e2 subD (eVar 0) (eC (.int 1))) lNil)))))))) (sRet (eC (.bl false))) sNil)
    (sRet (eAnd (e2 eqD (eB absG (lCons (e2 subD (e2 getD (eVar 1) (eC (.int 0))) (e2 getD (eVar 1) (eC (.int 1)))) lNil)) (eC (.int 1))) (eCall m_is_flag (lCons (e2 getD (eVar 1) (eC (.int 2))) lNil))))))
theorem m_is_row_eq : m_is_row = runDef 2 (sSeq (sIf (bOr (bNot (bTru (eCall m_is_triple (lCons (eVar 1) lNil)))) (bOr (bNot (bTru (eCall m_is_within (lCons (e2 getD (eVar 1) (eC (.int 0))) (lCons (eC (.int 0)) (lCons (e2 subD (eVar 0) (eC (.int 1))) lNil)))))) (bNot (bTru (eCall m_is_within (lCons (e2 getD (eVar 1) (eC (.int 1))) (lCons (eC (.int 0)) (lCons (e2 subD (eVar 0) (eC (.int 1))) lNil)))))))) (sRet (eC (.bl false))) sNil)
    (sRet (eAnd (e2 eqD (eB absG (lCons (e2 subD (e2 getD (eVar 1) (eC (.int 0))) (e2 getD (eVar 1) (eC (.int 1)))) lNil)) (eC (.int 1))) (eCall m_is_flag (lCons (e2 getD (eVar 1) (eC (.int 2))) lNil))))) := hid_eq _

noncomputable def m_first_bad : List D → Store → R D := hid (runDef 4 (sSeq (sFor (.tup [(.name 2), (.name 3)]) (iEnumF (lCons (eVar 1) lNil)) (sIf (bNot (bTru (eCall m_is_row (lCons (eVar 0) (lCons (eVar 3) lNil))))) (sRet (eVar 2)) sNil))
    (sRet (eC .non))))
theorem m_first_bad_eq : m_first_bad = runDef 4 (sSeq (sFor (.tup [(.name 2), (.name 3)]) (iEnumF (lCons (eVar 1) lNil)) (sIf (bNot (bTru (eCall m_is_row (lCons (eVar 0) (lCons (eVar 3) lNil))))) (sRet (eVar 2)) sNil))
    (sRet (eC .non))) := hid_eq _

noncomputable def m_Log__init : List D → Store → R D := hid (runDef 4 (sSeq (sIf (bNot (bTru (eCall m_is_within (lCons (eVar 1) (lCons (eC (.int 1)) (lCons (eC (.int 12)) lNil)))))) sBad sNil)
    (sSeq (sIf (bOr (bNot (bTru (eIsi ["tuple"] (eVar 2)))) (bB (e2 gtD (eQ lenG (lRd (eVar 2))) (eC (.int 60))))) sBad sNil)
    (sSeq (sSet 3 (eCall m_first_bad (lCons (eVar 1) (lCons (eVar 2) lNil))))
    (sSeq (sIf (bB (e2 notND (eVar 3) (eC .non))) sBad sNil)
    (sSeq (sFldA ["Log"] "offices" (eVar 0) (eVar 1))
    (sFldA ["Log"] "rows" (eVar 0) (eVar 2))))))))
theorem m_Log__init_eq : m_Log__init = runDef 4 (sSeq (sIf (bNot (bTru (eCall m_is_within (lCons (eVar 1) (lCons (eC (.int 1)) (lCons (eC (.int 12)) lNil)))))) sBad sNil)
    (sSeq (sIf (bOr (bNot (bTru (eIsi ["tuple"] (eVar 2)))) (bB (e2 gtD (eQ lenG (lRd (eVar 2))) (eC (.int 60))))) sBad sNil)
    (sSeq (sSet 3 (eCall m_first_bad (lCons (eVar 1) (lCons (eVar 2) lNil))))
    (sSeq (sIf (bB (e2 notND (eVar 3) (eC .non))) sBad sNil)
    (sSeq (sFldA ["Log"] "offices" (eVar 0) (eVar 1))
    (sFldA ["Log"] "rows" (eVar 0) (eVar 2))))))) := hid_eq _

noncomputable def m_Log__same : List D → Store → R D := hid (runDef 2 (sSeq (sIf (bNot (bTru (eIsC "Log" (eVar 1)))) (sRet (eC (.bl false))) sNil)
    (sRet (eAnd (e2 eqD (eFld ["Log"] "offices" (eVar 0)) (eFld ["Log"] "offices" (eVar 1))) (e2 eqD (eFld ["Log"] "rows" (eVar 0)) (eFld ["Log"] "rows" (eVar 1)))))))
theorem m_Log__same_eq : m_Log__same = runDef 2 (sSeq (sIf (bNot (bTru (eIsC "Log" (eVar 1)))) (sRet (eC (.bl false))) sNil)
    (sRet (eAnd (e2 eqD (eFld ["Log"] "offices" (eVar 0)) (eFld ["Log"] "offices" (eVar 1))) (e2 eqD (eFld ["Log"] "rows" (eVar 0)) (eFld ["Log"] "rows" (eVar 1)))))) := hid_eq _

noncomputable def m_Archive__m_now : List D → Store → R D := hid (runDef 1 (sRet (eFld ["Archive"] "pair" (eVar 0))))
theorem m_Archive__m_now_eq : m_Archive__m_now = runDef 1 (sRet (eFld ["Archive"] "pair" (eVar 0))) := hid_eq _

noncomputable def m_check_row : List D → Store → R D := hid (runDef 2 (sIf (bNot (bTru (eCall m_is_within (lCons (eVar 1) (lCons (eC (.int 0)) (lCons (e2 subD (eQ lenG (lRd (eFld ["Log"] "rows" (eVar 0)))) (eC (.int 1))) lNil)))))) (sRaise "NoRow") sNil))
theorem m_check_row_eq : m_check_row = runDef 2 (sIf (bNot (bTru (eCall m_is_within (lCons (eVar 1) (lCons (eC (.int 0)) (lCons (e2 subD (eQ lenG (lRd (eFld ["Log"] "rows" (eVar 0)))) (eC (.int 1))) lNil)))))) (sRaise "NoRow") sNil) := hid_eq _

noncomputable def m_raw_log : List D → Store → R D := hid (runDef 3 (sSeq (sSet 2 (eMake "Log" m_Log__init (lCons (eVar 0) (lCons (eTup lNil) lNil))))
    (sSeq (sFldA ["Log"] "rows" (eVar 2) (eQ tupG (lRd (eVar 1))))
    (sRet (eVar 2)))))
theorem m_raw_log_eq : m_raw_log = runDef 3 (sSeq (sSet 2 (eMake "Log" m_Log__init (lCons (eVar 0) (lCons (eTup lNil) lNil))))
    (sSeq (sFldA ["Log"] "rows" (eVar 2) (eQ tupG (lRd (eVar 1))))
    (sRet (eVar 2)))) := hid_eq _

noncomputable def m_without : List D → Store → R D := hid (runDef 2 (sSeq (sDrop (eCall m_check_row (lCons (eVar 0) (lCons (eVar 1) lNil))))
    (sRet (eCall m_raw_log (lCons (eFld ["Log"] "offices" (eVar 0)) (lCons (e2 addD (eSl (eFld ["Log"] "rows" (eVar 0)) oNone (oSome (eVar 1))) (eSl (eFld ["Log"] "rows" (eVar 0)) (oSome (e2 addD (eVar 1) (eC (.int 1)))) oNone)) lNil))))))
theorem m_without_eq : m_without = runDef 2 (sSeq (sDrop (eCall m_check_row (lCons (eVar 0) (lCons (eVar 1) lNil))))
    (sRet (eCall m_raw_log (lCons (eFld ["Log"] "offices" (eVar 0)) (lCons (e2 addD (eSl (eFld ["Log"] "rows" (eVar 0)) oNone (oSome (eVar 1))) (eSl (eFld ["Log"] "rows" (eVar 0)) (oSome (e2 addD (eVar 1) (eC (.int 1)))) oNone)) lNil))))) := hid_eq _

noncomputable def m_moved_find : List D → Store → R D := hid (runDef 3 (sSeq (sIf (bB (e2 ltD (e2 getD (eVar 0) (eC (.int 0))) (eVar 1))) (sRet (eVar 0)) sNil)
    (sRet (eTup (lCons (e2 addD (e2 getD (eVar 0) (eC (.int 0))) (eVar 2)) (lCons (e2 getD (eVar 0) (eC (.int 1))) (lCons (e2 getD (eVar 0) (eC (.int 2))) lNil)))))))
theorem m_moved_find_eq : m_moved_find = runDef 3 (sSeq (sIf (bB (e2 ltD (e2 getD (eVar 0) (eC (.int 0))) (eVar 1))) (sRet (eVar 0)) sNil)
    (sRet (eTup (lCons (e2 addD (e2 getD (eVar 0) (eC (.int 0))) (eVar 2)) (lCons (e2 getD (eVar 0) (eC (.int 1))) (lCons (e2 getD (eVar 0) (eC (.int 2))) lNil)))))) := hid_eq _

noncomputable def m_Archive__m_change : List D → Store → R D := hid (runDef 3 (sSeq (sDrop (eM isLst appendG (eFld ["Archive"] "past" (eVar 0)) (lCons (eFld ["Archive"] "pair" (eVar 0)) lNil)))
    (sFldA ["Archive"] "pair" (eVar 0) (eTup (lCons (eVar 1) (lCons (eVar 2) lNil))))))
theorem m_Archive__m_change_eq : m_Archive__m_change = runDef 3 (sSeq (sDrop (eM isLst appendG (eFld ["Archive"] "past" (eVar 0)) (lCons (eFld ["Archive"] "pair" (eVar 0)) lNil)))
    (sFldA ["Archive"] "pair" (eVar 0) (eTup (lCons (eVar 1) (lCons (eVar 2) lNil))))) := hid_eq _

noncomputable def m_Archive__m_strike : List D → Store → R D := hid (runDef 5 (sSeq (sAsg (.tup [(.name 2), (.name 3)]) (eFld ["Archive"] "pair" (eVar 0)))
    (sSeq (sDrop (eCall m_check_row (lCons (eVar 2) (lCons (eVar 1) lNil))))
    (sDrop (eMeth "Archive" "change" m_Archive__m_change (eVar 0) (lCons (eCall m_without (lCons (eVar 2) (lCons (eVar 1) lNil))) (lCons (eQ tupG (compF [4] (iSeqF (eVar 3)) (.name 4) bYes (eCall m_moved_find (lCons (eVar 4) (lCons (e2 addD (eVar 1) (eC (.int 1))) (lCons (e1 negD (eC (.int 1))) lNil)))))) lNil)))))))
theorem m_Archive__m_strike_eq : m_Archive__m_strike = runDef 5 (sSeq (sAsg (.tup [(.name 2), (.name 3)]) (eFld ["Archive"] "pair" (eVar 0)))
    (sSeq (sDrop (eCall m_check_row (lCons (eVar 2) (lCons (eVar 1) lNil))))
    (sDrop (eMeth "Archive" "change" m_Archive__m_change (eVar 0) (lCons (eCall m_without (lCons (eVar 2) (lCons (eVar 1) lNil))) (lCons (eQ tupG (compF [4] (iSeqF (eVar 3)) (.name 4) bYes (eCall m_moved_find (lCons (eVar 4) (lCons (e2 addD (eVar 1) (eC (.int 1))) (lCons (e1 negD (eC (.int 1))) lNil)))))) lNil)))))) := hid_eq _

noncomputable def m_Archive__m_back : List D → Store → R D := hid (runDef 1 (sSeq (sIf (bB (e2 eqD (eQ lenG (lRd (eFld ["Archive"] "past" (eVar 0)))) (eC (.int 0)))) (sRaise "NothingDone") sNil)
    (sFldA ["Archive"] "pair" (eVar 0) (eM isLst popG (eFld ["Archive"] "past" (eVar 0)) lNil))))
theorem m_Archive__m_back_eq : m_Archive__m_back = runDef 1 (sSeq (sIf (bB (e2 eqD (eQ lenG (lRd (eFld ["Archive"] "past" (eVar 0)))) (eC (.int 0)))) (sRaise "NothingDone") sNil)
    (sFldA ["Archive"] "pair" (eVar 0) (eM isLst popG (eFld ["Archive"] "past" (eVar 0)) lNil))) := hid_eq _

noncomputable def m_Archive__m_steps : List D → Store → R D := hid (runDef 1 (sRet (eQ lenG (lRd (eFld ["Archive"] "past" (eVar 0))))))
theorem m_Archive__m_steps_eq : m_Archive__m_steps = runDef 1 (sRet (eQ lenG (lRd (eFld ["Archive"] "past" (eVar 0))))) := hid_eq _

noncomputable def m__law_dice : List D → Store → R D := hid (runDef 2 (sRet (eLst (lLst (lCons (eLst (compF [1] (iLstF (lSl (eVar 0) oNone (oSome (eC (.int 63))))) (.name 1) bYes (eB absG (lCons (eB intG (lCons (eVar 1) lNil)) lNil)))) (lCons (eC (.int 0)) (lCons (eC (.int 0)) (lCons (eC (.int 1)) (lCons (eC (.int 0)) lNil)))))))))
theorem m__law_dice_eq : m__law_dice = runDef 2 (sRet (eLst (lLst (lCons (eLst (compF [1] (iLstF (lSl (eVar 0) oNone (oSome (eC (.int 63))))) (.name 1) bYes (eB absG (lCons (eB intG (lCons (eVar 1) lNil)) lNil)))) (lCons (eC (.int 0)) (lCons (eC (.int 0)) (lCons (eC (.int 1)) (lCons (eC (.int 0)) lNil)))))))) := hid_eq _

noncomputable def m__law_draw : List D → Store → R D := hid (runDef 5 (sSeq (sIf (bAnd (bB (e2 eqD (e2 getD (eVar 0) (eC (.int 2))) (eC (.int 0)))) (bB (e2 ltD (e2 getD (eVar 0) (eC (.int 1))) (eQ lenG (lRd (e2 getD (eVar 0) (eC (.int 0)))))))) (sSeq (sSet 3 (e2 getD (e2 getD (eVar 0) (eC (.int 0))) (e2 getD (eVar 0) (eC (.int 1)))))
    (sSeq (sSub (eVar 0) (eC (.int 1)) (e2 addD (e2 getD (eVar 0) (eC (.int 1))) (eC (.int 1))))
    (sIf (bB (e2 geD (eVar 3) (e2 powD (eC (.int 10)) (eC (.int 18))))) (sSub (eVar 0) (eC (.int 2)) (eVar 3)) (sSub (eVar 0) (eC (.int 3)) (e2 modD (eB intG (lCons (e2 addD (e2 addD (e2 mulD (e2 getD (eVar 0) (eC (.int 3))) (eC (.int 69621))) (e2 mulD (eVar 3) (eC (.int 40692)))) (e2 getD (eVar 0) (eC (.int 1)))) lNil)) (eC (.int 2147483647))))))) sNil)
    (sSeq (sIf (bB (e2 gtD (e2 getD (eVar 0) (eC (.int 2))) (eC (.int 0)))) (sSeq (sSet 4 (e2 modD (eB intG (lCons (e2 getD (eVar 0) (eC (.int 2))) lNil)) (eVar 1)))
    (sSeq (sSub (eVar 0) (eC (.int 2)) (e2 divD (eB intG (lCons (e2 getD (eVar 0) (eC (.int 2))) lNil)) (eVar 1)))
    (sRet (eVar 4)))) sNil)
    (sSeq (sSub (eVar 0) (eC (.int 4)) (e2 addD (e2 getD (eVar 0) (eC (.int 4))) (eC (.int 1))))
    (sSeq (sSub (eVar 0) (eC (.int 3)) (e2 modD (eB intG (lCons (e2 addD (e2 addD (e2 mulD (e2 getD (eVar 0) (eC (.int 3))) (eC (.int 48271))) (e2 mulD (e2 getD (eVar 0) (eC (.int 4))) (eC (.int 7919)))) (eC (.int 1))) lNil)) (eC (.int 2147483647))))
    (sSeq (sSet 2 (e2 modD (eB intG (lCons (e2 mulD (e2 getD (eVar 0) (eC (.int 3))) (e2 addD (e2 divD (e2 getD (eVar 0) (eC (.int 3))) (eC (.int 1009))) (eC (.int 69623)))) lNil)) (eC (.int 2147483399))))
    (sSeq (sSet 2 (e2 modD (eB intG (lCons (e2 mulD (eVar 2) (e2 addD (e2 divD (eVar 2) (eC (.int 2003))) (eC (.int 40693)))) lNil)) (eC (.int 2147483563))))
    (sRet (e2 modD (eB intG (lCons (e2 divD (eVar 2) (eC (.int 16))) lNil)) (eVar 1))))))))))
theorem m__law_draw_eq : m__law_draw = runDef 5 (sSeq (sIf (bAnd (bB (e2 eqD (e2 getD (eVar 0) (eC (.int 2))) (eC (.int 0)))) (bB (e2 ltD (e2 getD (eVar 0) (eC (.int 1))) (eQ lenG (lRd (e2 getD (eVar 0) (eC (.int 0)))))))) (sSeq (sSet 3 (e2 getD (e2 getD (eVar 0) (eC (.int 0))) (e2 getD (eVar 0) (eC (.int 1)))))
    (sSeq (sSub (eVar 0) (eC (.int 1)) (e2 addD (e2 getD (eVar 0) (eC (.int 1))) (eC (.int 1))))
    (sIf (bB (e2 geD (eVar 3) (e2 powD (eC (.int 10)) (eC (.int 18))))) (sSub (eVar 0) (eC (.int 2)) (eVar 3)) (sSub (eVar 0) (eC (.int 3)) (e2 modD (eB intG (lCons (e2 addD (e2 addD (e2 mulD (e2 getD (eVar 0) (eC (.int 3))) (eC (.int 69621))) (e2 mulD (eVar 3) (eC (.int 40692)))) (e2 getD (eVar 0) (eC (.int 1)))) lNil)) (eC (.int 2147483647))))))) sNil)
    (sSeq (sIf (bB (e2 gtD (e2 getD (eVar 0) (eC (.int 2))) (eC (.int 0)))) (sSeq (sSet 4 (e2 modD (eB intG (lCons (e2 getD (eVar 0) (eC (.int 2))) lNil)) (eVar 1)))
    (sSeq (sSub (eVar 0) (eC (.int 2)) (e2 divD (eB intG (lCons (e2 getD (eVar 0) (eC (.int 2))) lNil)) (eVar 1)))
    (sRet (eVar 4)))) sNil)
    (sSeq (sSub (eVar 0) (eC (.int 4)) (e2 addD (e2 getD (eVar 0) (eC (.int 4))) (eC (.int 1))))
    (sSeq (sSub (eVar 0) (eC (.int 3)) (e2 modD (eB intG (lCons (e2 addD (e2 addD (e2 mulD (e2 getD (eVar 0) (eC (.int 3))) (eC (.int 48271))) (e2 mulD (e2 getD (eVar 0) (eC (.int 4))) (eC (.int 7919)))) (eC (.int 1))) lNil)) (eC (.int 2147483647))))
    (sSeq (sSet 2 (e2 modD (eB intG (lCons (e2 mulD (e2 getD (eVar 0) (eC (.int 3))) (e2 addD (e2 divD (e2 getD (eVar 0) (eC (.int 3))) (eC (.int 1009))) (eC (.int 69623)))) lNil)) (eC (.int 2147483399))))
    (sSeq (sSet 2 (e2 modD (eB intG (lCons (e2 mulD (eVar 2) (e2 addD (e2 divD (eVar 2) (eC (.int 2003))) (eC (.int 40693)))) lNil)) (eC (.int 2147483563))))
    (sRet (e2 modD (eB intG (lCons (e2 divD (eVar 2) (eC (.int 16))) lNil)) (eVar 1))))))))) := hid_eq _

noncomputable def m__law_row : List D → Store → R D := hid (runDef 5 (sSeq (sSet 3 (eCall m__law_draw (lCons (eVar 0) (lCons (eVar 1) lNil))))
    (sSeq (sSet 4 (e2 addD (eVar 3) (eC (.int 1))))
    (sSeq (sIf (bAnd (bB (e2 gtD (eVar 3) (eC (.int 0)))) (bOr (bB (e2 eqD (eVar 3) (e2 subD (eVar 1) (eC (.int 1))))) (bB (e2 eqD (eCall m__law_draw (lCons (eVar 0) (lCons (eC (.int 2)) lNil))) (eC (.int 0)))))) (sSet 4 (e2 subD (eVar 3) (eC (.int 1)))) sNil)
    (sRet (eTup (lCons (eVar 3) (lCons (eVar 4) (lCons (e2 ltD (eCall m__law_draw (lCons (eVar 0) (lCons (eC (.int 6)) lNil))) (eVar 2)) lNil)))))))))
theorem m__law_row_eq : m__law_row = runDef 5 (sSeq (sSet 3 (eCall m__law_draw (lCons (eVar 0) (lCons (eVar 1) lNil))))
    (sSeq (sSet 4 (e2 addD (eVar 3) (eC (.int 1))))
    (sSeq (sIf (bAnd (bB (e2 gtD (eVar 3) (eC (.int 0)))) (bOr (bB (e2 eqD (eVar 3) (e2 subD (eVar 1) (eC (.int 1))))) (bB (e2 eqD (eCall m__law_draw (lCons (eVar 0) (lCons (eC (.int 2)) lNil))) (eC (.int 0)))))) (sSet 4 (e2 subD (eVar 3) (eC (.int 1)))) sNil)
    (sRet (eTup (lCons (eVar 3) (lCons (eVar 4) (lCons (e2 ltD (eCall m__law_draw (lCons (eVar 0) (lCons (eC (.int 6)) lNil))) (eVar 2)) lNil)))))))) := hid_eq _

noncomputable def m__law_rows : List D → Store → R D := hid (runDef 5 (sSeq (sSet 3 (e2 getD (eLst (lLst (lCons (eC (.int 0)) (lCons (eC (.int 1)) (lCons (eC (.int 3)) lNil))))) (eCall m__law_draw (lCons (eVar 0) (lCons (eC (.int 3)) lNil)))))
    (sSeq (sIf (bB (e2 eqD (eVar 1) (eC (.int 1)))) (sRet (eTup lNil)) sNil)
    (sRet (eQ tupG (compF [4] (iRng1F (lCons (eVar 2) lNil)) (.name 4) bYes (eCall m__law_row (lCons (eVar 0) (lCons (eVar 1) (lCons (eVar 3) lNil))))))))))
theorem m__law_rows_eq : m__law_rows = runDef 5 (sSeq (sSet 3 (e2 getD (eLst (lLst (lCons (eC (.int 0)) (lCons (eC (.int 1)) (lCons (eC (.int 3)) lNil))))) (eCall m__law_draw (lCons (eVar 0) (lCons (eC (.int 3)) lNil)))))
    (sSeq (sIf (bB (e2 eqD (eVar 1) (eC (.int 1)))) (sRet (eTup lNil)) sNil)
    (sRet (eQ tupG (compF [4] (iRng1F (lCons (eVar 2) lNil)) (.name 4) bYes (eCall m__law_row (lCons (eVar 0) (lCons (eVar 1) (lCons (eVar 3) lNil))))))))) := hid_eq _

noncomputable def m__law_doing : List D → Store → R D := hid (runDef 4 (sSeq (sSet 2 (e2 getD (eLst (lLst (lCons (eC (.int 1)) (lCons (eC (.int 3)) (lCons (eC (.int 5)) lNil))))) (eCall m__law_draw (lCons (eVar 0) (lCons (eC (.int 3)) lNil)))))
    (sRet (eQ tupG (compF [3] (iSeqF (eVar 1)) (.name 3) bYes (eOr (e2 getD (eVar 3) (eC (.int 2))) (e2 ltD (eCall m__law_draw (lCons (eVar 0) (lCons (eC (.int 6)) lNil))) (eVar 2))))))))
theorem m__law_doing_eq : m__law_doing = runDef 4 (sSeq (sSet 2 (e2 getD (eLst (lLst (lCons (eC (.int 1)) (lCons (eC (.int 3)) (lCons (eC (.int 5)) lNil))))) (eCall m__law_draw (lCons (eVar 0) (lCons (eC (.int 3)) lNil)))))
    (sRet (eQ tupG (compF [3] (iSeqF (eVar 1)) (.name 3) bYes (eOr (e2 getD (eVar 3) (eC (.int 2))) (e2 ltD (eCall m__law_draw (lCons (eVar 0) (lCons (eC (.int 6)) lNil))) (eVar 2))))))) := hid_eq _

noncomputable def m__law_led : List D → Store → R D := hid (runDef 6 (sSeq (sSet 3 (eLst (lLst (lCons (eRng1 (eVar 0)) lNil))))
    (sSeq (sFor (.name 4) (iRng1F (lCons (eQ lenG (lRd (eVar 1))) lNil)) (sSeq (sSet 5 (eLst (lQ lstG (lRd (e2 getD (eVar 3) (e1 negD (eC (.int 1))))))))
    (sSeq (sIf (bTru (e2 getD (eVar 2) (eVar 4))) (sSub (eVar 5) (e2 getD (e2 getD (eVar 1) (eVar 4)) (eC (.int 0))) (e2 getD (eVar 5) (e2 getD (e2 getD (eVar 1) (eVar 4)) (eC (.int 1))))) sNil)
    (sDrop (eM isLst appendG (eVar 3) (lCons (eQ tupG (lRd (eVar 5))) lNil))))))
    (sRet (eVar 3)))))
theorem m__law_led_eq : m__law_led = runDef 6 (sSeq (sSet 3 (eLst (lLst (lCons (eRng1 (eVar 0)) lNil))))
    (sSeq (sFor (.name 4) (iRng1F (lCons (eQ lenG (lRd (eVar 1))) lNil)) (sSeq (sSet 5 (eLst (lQ lstG (lRd (e2 getD (eVar 3) (e1 negD (eC (.int 1))))))))
    (sSeq (sIf (bTru (e2 getD (eVar 2) (eVar 4))) (sSub (eVar 5) (e2 getD (e2 getD (eVar 1) (eVar 4)) (eC (.int 0))) (e2 getD (eVar 5) (e2 getD (e2 getD (eVar 1) (eVar 4)) (eC (.int 1))))) sNil)
    (sDrop (eM isLst appendG (eVar 3) (lCons (eQ tupG (lRd (eVar 5))) lNil))))))
    (sRet (eVar 3)))) := hid_eq _

noncomputable def m__law_find : List D → Store → R D := hid (runDef 5 (sSeq (sSet 3 (eCall m__law_draw (lCons (eVar 0) (lCons (eQ lenG (lRd (eVar 2))) lNil))))
    (sSeq (sSet 4 (eCall m__law_draw (lCons (eVar 0) (lCons (eVar 1) lNil))))
    (sSeq (sIf (bB (e2 eqD (eCall m__law_draw (lCons (eVar 0) (lCons (eC (.int 4)) lNil))) (eC (.int 0)))) (sRet (eTup (lCons (eVar 3) (lCons (eVar 4) (lCons (eCall m__law_draw (lCons (eVar 0) (lCons (eVar 1) lNil))) lNil))))) sNil)
    (sRet (eTup (lCons (eVar 3) (lCons (eVar 4) (lCons (e2 getD (e2 getD (eVar 2) (eVar 3)) (eVar 4)) lNil)))))))))
theorem m__law_find_eq : m__law_find = runDef 5 (sSeq (sSet 3 (eCall m__law_draw (lCons (eVar 0) (lCons (eQ lenG (lRd (eVar 2))) lNil))))
    (sSeq (sSet 4 (eCall m__law_draw (lCons (eVar 0) (lCons (eVar 1) lNil))))
    (sSeq (sIf (bB (e2 eqD (eCall m__law_draw (lCons (eVar 0) (lCons (eC (.int 4)) lNil))) (eC (.int 0)))) (sRet (eTup (lCons (eVar 3) (lCons (eVar 4) (lCons (eCall m__law_draw (lCons (eVar 0) (lCons (eVar 1) lNil))) lNil))))) sNil)
    (sRet (eTup (lCons (eVar 3) (lCons (eVar 4) (lCons (e2 getD (e2 getD (eVar 2) (eVar 3)) (eVar 4)) lNil)))))))) := hid_eq _

noncomputable def m__law_moved : List D → Store → R D := hid (runDef 3 (sRet (eTup (lCons (e2 addD (e2 getD (eVar 0) (eC (.int 0))) (e2 mulD (eVar 2) (eB intG (lCons (e2 geD (e2 getD (eVar 0) (eC (.int 0))) (eVar 1)) lNil)))) (lCons (e2 getD (eVar 0) (eC (.int 1))) (lCons (e2 getD (eVar 0) (eC (.int 2))) lNil))))))
theorem m__law_moved_eq : m__law_moved = runDef 3 (sRet (eTup (lCons (e2 addD (e2 getD (eVar 0) (eC (.int 0))) (e2 mulD (eVar 2) (eB intG (lCons (e2 geD (e2 getD (eVar 0) (eC (.int 0))) (eVar 1)) lNil)))) (lCons (e2 getD (eVar 0) (eC (.int 1))) (lCons (e2 getD (eVar 0) (eC (.int 2))) lNil))))) := hid_eq _

noncomputable def m_check_number : List D → Store → R D := hid (runDef 3 (sIf (bNot (bTru (eCall m_is_within (lCons (eVar 0) (lCons (eVar 1) (lCons (eVar 2) lNil)))))) (sRaise "NoNumber") sNil))
theorem m_check_number_eq : m_check_number = runDef 3 (sIf (bNot (bTru (eCall m_is_within (lCons (eVar 0) (lCons (eVar 1) (lCons (eVar 2) lNil)))))) (sRaise "NoNumber") sNil) := hid_eq _

noncomputable def m_Archive__init : List D → Store → R D := hid (runDef 2 (sSeq (sDrop (eCall m_check_number (lCons (eVar 1) (lCons (eC (.int 1)) (lCons (eC (.int 12)) lNil)))))
    (sSeq (sFldA ["Archive"] "pair" (eVar 0) (eTup (lCons (eMake "Log" m_Log__init (lCons (eVar 1) (lCons (eTup lNil) lNil))) (lCons (eTup lNil) lNil))))
    (sFldA ["Archive"] "past" (eVar 0) (eLst (lLst lNil))))))
theorem m_Archive__init_eq : m_Archive__init = runDef 2 (sSeq (sDrop (eCall m_check_number (lCons (eVar 1) (lCons (eC (.int 1)) (lCons (eC (.int 12)) lNil)))))
    (sSeq (sFldA ["Archive"] "pair" (eVar 0) (eTup (lCons (eMake "Log" m_Log__init (lCons (eVar 1) (lCons (eTup lNil) lNil))) (lCons (eTup lNil) lNil))))
    (sFldA ["Archive"] "past" (eVar 0) (eLst (lLst lNil))))) := hid_eq _

noncomputable def m_check_most : List D → Store → R D := hid (runDef 2 (sIf (bB (e2 gtD (eVar 0) (eVar 1))) sBad sNil))
theorem m_check_most_eq : m_check_most = runDef 2 (sIf (bB (e2 gtD (eVar 0) (eVar 1))) sBad sNil) := hid_eq _

noncomputable def m_with_row : List D → Store → R D := hid (runDef 3 (sSeq (sIf (bNot (bTru (eCall m_is_within (lCons (eVar 1) (lCons (eC (.int 0)) (lCons (eQ lenG (lRd (eFld ["Log"] "rows" (eVar 0)))) lNil)))))) (sRaise "NoRow") sNil)
    (sSeq (sIf (bNot (bTru (eCall m_is_row (lCons (eFld ["Log"] "offices" (eVar 0)) (lCons (eVar 2) lNil))))) (sRaise "BadRow") sNil)
    (sRet (eCall m_raw_log (lCons (eFld ["Log"] "offices" (eVar 0)) (lCons (e2 addD (e2 addD (eSl (eFld ["Log"] "rows" (eVar 0)) oNone (oSome (eVar 1))) (eTup (lCons (eVar 2) lNil))) (eSl (eFld ["Log"] "rows" (eVar 0)) (oSome (eVar 1)) oNone)) lNil)))))))
theorem m_with_row_eq : m_with_row = runDef 3 (sSeq (sIf (bNot (bTru (eCall m_is_within (lCons (eVar 1) (lCons (eC (.int 0)) (lCons (eQ lenG (lRd (eFld ["Log"] "rows" (eVar 0)))) lNil)))))) (sRaise "NoRow") sNil)
    (sSeq (sIf (bNot (bTru (eCall m_is_row (lCons (eFld ["Log"] "offices" (eVar 0)) (lCons (eVar 2) lNil))))) (sRaise "BadRow") sNil)
    (sRet (eCall m_raw_log (lCons (eFld ["Log"] "offices" (eVar 0)) (lCons (e2 addD (e2 addD (eSl (eFld ["Log"] "rows" (eVar 0)) oNone (oSome (eVar 1))) (eTup (lCons (eVar 2) lNil))) (eSl (eFld ["Log"] "rows" (eVar 0)) (oSome (eVar 1)) oNone)) lNil)))))) := hid_eq _

noncomputable def m_Archive__m_put : List D → Store → R D := hid (runDef 7 (sSeq (sAsg (.tup [(.name 4), (.name 5)]) (eFld ["Archive"] "pair" (eVar 0)))
    (sSeq (sSet 3 (eCall m_with_row (lCons (eVar 4) (lCons (eVar 1) (lCons (eVar 2) lNil)))))
    (sSeq (sDrop (eCall m_check_most (lCons (eQ lenG (lRd (eFld ["Log"] "rows" (eVar 3)))) (lCons (eC (.int 60)) lNil))))
    (sDrop (eMeth "Archive" "change" m_Archive__m_change (eVar 0) (lCons (eVar 3) (lCons (eQ tupG (compF [6] (iSeqF (eVar 5)) (.name 6) bYes (eCall m_moved_find (lCons (eVar 6) (lCons (e2 addD (eVar 1) (eC (.int 1))) (lCons (eC (.int 1)) lNil)))))) lNil))))))))
theorem m_Archive__m_put_eq : m_Archive__m_put = runDef 7 (sSeq (sAsg (.tup [(.name 4), (.name 5)]) (eFld ["Archive"] "pair" (eVar 0)))
    (sSeq (sSet 3 (eCall m_with_row (lCons (eVar 4) (lCons (eVar 1) (lCons (eVar 2) lNil)))))
    (sSeq (sDrop (eCall m_check_most (lCons (eQ lenG (lRd (eFld ["Log"] "rows" (eVar 3)))) (lCons (eC (.int 60)) lNil))))
    (sDrop (eMeth "Archive" "change" m_Archive__m_change (eVar 0) (lCons (eVar 3) (lCons (eQ tupG (compF [6] (iSeqF (eVar 5)) (.name 6) bYes (eCall m_moved_find (lCons (eVar 6) (lCons (e2 addD (eVar 1) (eC (.int 1))) (lCons (eC (.int 1)) lNil)))))) lNil))))))) := hid_eq _

noncomputable def m_is_find : List D → Store → R D := hid (runDef 2 (sSeq (sIf (bOr (bNot (bTru (eCall m_is_triple (lCons (eVar 1) lNil)))) (bNot (bTru (eCall m_is_within (lCons (e2 getD (eVar 1) (eC (.int 0))) (lCons (eC (.int 0)) (lCons (eQ lenG (lRd (eFld ["Log"] "rows" (eVar 0)))) lNil))))))) (sRet (eC (.bl false))) sNil)
    (sRet (eAnd (eCall m_is_within (lCons (e2 getD (eVar 1) (eC (.int 1))) (lCons (eC (.int 0)) (lCons (e2 subD (eFld ["Log"] "offices" (eVar 0)) (eC (.int 1))) lNil)))) (eCall m_is_within (lCons (e2 getD (eVar 1) (eC (.int 2))) (lCons (eC (.int 0)) (lCons (e2 subD (eFld ["Log"] "offices" (eVar 0)) (eC (.int 1))) lNil))))))))
theorem m_is_find_eq : m_is_find = runDef 2 (sSeq (sIf (bOr (bNot (bTru (eCall m_is_triple (lCons (eVar 1) lNil)))) (bNot (bTru (eCall m_is_within (lCons (e2 getD (eVar 1) (eC (.int 0))) (lCons (eC (.int 0)) (lCons (eQ lenG (lRd (eFld ["Log"] "rows" (eVar 0)))) lNil))))))) (sRet (eC (.bl false))) sNil)
    (sRet (eAnd (eCall m_is_within (lCons (e2 getD (eVar 1) (eC (.int 1))) (lCons (eC (.int 0)) (lCons (e2 subD (eFld ["Log"] "offices" (eVar 0)) (eC (.int 1))) lNil)))) (eCall m_is_within (lCons (e2 getD (eVar 1) (eC (.int 2))) (lCons (eC (.int 0)) (lCons (e2 subD (eFld ["Log"] "offices" (eVar 0)) (eC (.int 1))) lNil))))))) := hid_eq _

noncomputable def m_Archive__m_show : List D → Store → R D := hid (runDef 4 (sSeq (sAsg (.tup [(.name 2), (.name 3)]) (eFld ["Archive"] "pair" (eVar 0)))
    (sSeq (sIf (bNot (bTru (eCall m_is_find (lCons (eVar 2) (lCons (eVar 1) lNil))))) (sRaise "NoFind") sNil)
    (sSeq (sDrop (eCall m_check_most (lCons (e2 addD (eQ lenG (lRd (eVar 3))) (eC (.int 1))) (lCons (eC (.int 40)) lNil))))
    (sDrop (eMeth "Archive" "change" m_Archive__m_change (eVar 0) (lCons (eVar 2) (lCons (e2 addD (eVar 3) (eTup (lCons (eVar 1) lNil))) lNil))))))))
theorem m_Archive__m_show_eq : m_Archive__m_show = runDef 4 (sSeq (sAsg (.tup [(.name 2), (.name 3)]) (eFld ["Archive"] "pair" (eVar 0)))
    (sSeq (sIf (bNot (bTru (eCall m_is_find (lCons (eVar 2) (lCons (eVar 1) lNil))))) (sRaise "NoFind") sNil)
    (sSeq (sDrop (eCall m_check_most (lCons (e2 addD (eQ lenG (lRd (eVar 3))) (eC (.int 1))) (lCons (eC (.int 40)) lNil))))
    (sDrop (eMeth "Archive" "change" m_Archive__m_change (eVar 0) (lCons (eVar 2) (lCons (e2 addD (eVar 3) (eTup (lCons (eVar 1) lNil))) lNil))))))) := hid_eq _

noncomputable def m__law_filled : List D → Store → R D := hid (runDef 6 (sSeq (sSet 3 (eMake "Archive" m_Archive__init (lCons (eVar 0) lNil)))
    (sSeq (sFor (.name 4) (iSeqF (eVar 1)) (sDrop (eMeth "Archive" "put" m_Archive__m_put (eVar 3) (lCons (eQ lenG (lRd (eFld ["Log"] "rows" (e2 getD (eMeth "Archive" "now" m_Archive__m_now (eVar 3) lNil) (eC (.int 0)))))) (lCons (eVar 4) lNil)))))
    (sSeq (sFor (.name 5) (iSeqF (eVar 2)) (sDrop (eMeth "Archive" "show" m_Archive__m_show (eVar 3) (lCons (eVar 5) lNil))))
    (sRet (eVar 3))))))
theorem m__law_filled_eq : m__law_filled = runDef 6 (sSeq (sSet 3 (eMake "Archive" m_Archive__init (lCons (eVar 0) lNil)))
    (sSeq (sFor (.name 4) (iSeqF (eVar 1)) (sDrop (eMeth "Archive" "put" m_Archive__m_put (eVar 3) (lCons (eQ lenG (lRd (eFld ["Log"] "rows" (e2 getD (eMeth "Archive" "now" m_Archive__m_now (eVar 3) lNil) (eC (.int 0)))))) (lCons (eVar 4) lNil)))))
    (sSeq (sFor (.name 5) (iSeqF (eVar 2)) (sDrop (eMeth "Archive" "show" m_Archive__m_show (eVar 3) (lCons (eVar 5) lNil))))
    (sRet (eVar 3))))) := hid_eq _

noncomputable def m_is_doing : List D → Store → R D := hid (runDef 4 (sSeq (sIf (bOr (bNot (bTru (eIsi ["tuple"] (eVar 1)))) (bOr (bB (e2 neD (eQ lenG (lRd (eVar 1))) (eQ lenG (lRd (eFld ["Log"] "rows" (eVar 0)))))) (bNot (bTru (eQ allG (compF [2] (iSeqF (eVar 1)) (.name 2) bYes (eCall m_is_flag (lCons (eVar 2) lNil)))))))) (sRet (eC (.bl false))) sNil)
    (sRet (eQ allG (compF [2, 3] (iZipA (lCons (eVar 1) (lCons (eFld ["Log"] "rows" (eVar 0)) lNil))) (.tup [(.name 2), (.name 3)]) bYes (eOr (eVar 2) (eNot (e2 getD (eVar 3) (eC (.int 2))))))))))
theorem m_is_doing_eq : m_is_doing = runDef 4 (sSeq (sIf (bOr (bNot (bTru (eIsi ["tuple"] (eVar 1)))) (bOr (bB (e2 neD (eQ lenG (lRd (eVar 1))) (eQ lenG (lRd (eFld ["Log"] "rows" (eVar 0)))))) (bNot (bTru (eQ allG (compF [2] (iSeqF (eVar 1)) (.name 2) bYes (eCall m_is_flag (lCons (eVar 2) lNil)))))))) (sRet (eC (.bl false))) sNil)
    (sRet (eQ allG (compF [2, 3] (iZipA (lCons (eVar 1) (lCons (eFld ["Log"] "rows" (eVar 0)) lNil))) (.tup [(.name 2), (.name 3)]) bYes (eOr (eVar 2) (eNot (e2 getD (eVar 3) (eC (.int 2))))))))) := hid_eq _

noncomputable def m_check_doing : List D → Store → R D := hid (runDef 2 (sIf (bNot (bTru (eCall m_is_doing (lCons (eVar 0) (lCons (eVar 1) lNil))))) (sRaise "NoDoing") sNil))
theorem m_check_doing_eq : m_check_doing = runDef 2 (sIf (bNot (bTru (eCall m_is_doing (lCons (eVar 0) (lCons (eVar 1) lNil))))) (sRaise "NoDoing") sNil) := hid_eq _

noncomputable def m_begun : List D → Store → R D := hid (runDef 1 (sRet (eRng1 (eVar 0))))
theorem m_begun_eq : m_begun = runDef 1 (sRet (eRng1 (eVar 0))) := hid_eq _

noncomputable def m_copied : List D → Store → R D := hid (runDef 2 (sRet (e2 addD (e2 addD (eSl (eVar 0) oNone (oSome (e2 getD (eVar 1) (eC (.int 0))))) (eTup (lCons (e2 getD (eVar 0) (e2 getD (eVar 1) (eC (.int 1)))) lNil))) (eSl (eVar 0) (oSome (e2 addD (e2 getD (eVar 1) (eC (.int 0))) (eC (.int 1)))) oNone))))
theorem m_copied_eq : m_copied = runDef 2 (sRet (e2 addD (e2 addD (eSl (eVar 0) oNone (oSome (e2 getD (eVar 1) (eC (.int 0))))) (eTup (lCons (e2 getD (eVar 0) (e2 getD (eVar 1) (eC (.int 1)))) lNil))) (eSl (eVar 0) (oSome (e2 addD (e2 getD (eVar 1) (eC (.int 0))) (eC (.int 1)))) oNone))) := hid_eq _

noncomputable def m_led : List D → Store → R D := hid (runDef 5 (sSeq (sSet 2 (eLst (lLst (lCons (eCall m_begun (lCons (eFld ["Log"] "offices" (eVar 0)) lNil)) lNil))))
    (sSeq (sFor (.tup [(.name 3), (.name 4)]) (iZipA (lCons (eVar 1) (lCons (eFld ["Log"] "rows" (eVar 0)) lNil))) (sDrop (eM isLst appendG (eVar 2) (lCons (eIf (bTru (eVar 3)) (eCall m_copied (lCons (e2 getD (eVar 2) (e1 negD (eC (.int 1)))) (lCons (eVar 4) lNil))) (e2 getD (eVar 2) (e1 negD (eC (.int 1))))) lNil))))
    (sRet (eVar 2)))))
theorem m_led_eq : m_led = runDef 5 (sSeq (sSet 2 (eLst (lLst (lCons (eCall m_begun (lCons (eFld ["Log"] "offices" (eVar 0)) lNil)) lNil))))
    (sSeq (sFor (.tup [(.name 3), (.name 4)]) (iZipA (lCons (eVar 1) (lCons (eFld ["Log"] "rows" (eVar 0)) lNil))) (sDrop (eM isLst appendG (eVar 2) (lCons (eIf (bTru (eVar 3)) (eCall m_copied (lCons (e2 getD (eVar 2) (e1 negD (eC (.int 1)))) (lCons (eVar 4) lNil))) (e2 getD (eVar 2) (e1 negD (eC (.int 1))))) lNil))))
    (sRet (eVar 2)))) := hid_eq _

noncomputable def m_all_sheets : List D → Store → R D := hid (runDef 2 (sSeq (sDrop (eCall m_check_doing (lCons (eVar 0) (lCons (eVar 1) lNil))))
    (sRet (eLst (lDrop (eCall m_led (lCons (eVar 0) (lCons (eVar 1) lNil))))))))
theorem m_all_sheets_eq : m_all_sheets = runDef 2 (sSeq (sDrop (eCall m_check_doing (lCons (eVar 0) (lCons (eVar 1) lNil))))
    (sRet (eLst (lDrop (eCall m_led (lCons (eVar 0) (lCons (eVar 1) lNil))))))) := hid_eq _

noncomputable def m__law_put_right : List D → Store → R D := hid (runDef 13 (sSeq (sDrop (eMeth "Archive" "put" m_Archive__m_put (eVar 0) (lCons (eVar 4) (lCons (eVar 5) lNil))))
    (sSeq (sAsg (.tup [(.name 10), (.name 11)]) (eMeth "Archive" "now" m_Archive__m_now (eVar 0) lNil))
    (sSeq (sIf (bOr (bB (e2 neD (eVar 11) (eQ tupG (compF [12] (iSeqF (eVar 3)) (.name 12) bYes (eCall m__law_moved (lCons (eVar 12) (lCons (e2 addD (eVar 4) (eC (.int 1))) (lCons (eC (.int 1)) lNil)))))))) (bB (e2 neD (eFld ["Log"] "rows" (eVar 10)) (e2 addD (e2 addD (eSl (eVar 2) oNone (oSome (eVar 4))) (eTup (lCons (eVar 5) lNil))) (eSl (eVar 2) (oSome (eVar 4)) oNone))))) (sRet (eC (.bl false))) sNil)
    (sSeq (sSet 7 (eLst (lDrop (eCall m_all_sheets (lCons (eMake "Log" m_Log__init (lCons (eVar 1) (lCons (eVar 2) lNil))) (lCons (eVar 6) lNil))))))
    (sSeq (sSet 8 (eLst (lDrop (eCall m_all_sheets (lCons (eVar 10) (lCons (e2 addD (e2 addD (eSl (eVar 6) oNone (oSome (eVar 4))) (eTup (lCons (eC (.bl false)) lNil))) (eSl (eVar 6) (oSome (eVar 4)) oNone)) lNil))))))
    (sSeq (sFor (.name 9) (iRng1F (lCons (eQ lenG (lRd (eVar 3))) lNil)) (sIf (bOr (bB (e2 neD (e2 getD (eVar 7) (e2 getD (e2 getD (eVar 3) (eVar 9)) (eC (.int 0)))) (e2 getD (eVar 8) (e2 getD (e2 getD (eVar 11) (eVar 9)) (eC (.int 0)))))) (bB (e2 neD (e2 leD (e2 getD (e2 getD (eVar 3) (eVar 9)) (eC (.int 0))) (eVar 4)) (e2 leD (e2 getD (e2 getD (eVar 11) (eVar 9)) (eC (.int 0))) (eVar 4))))) (sRet (eC (.bl false))) sNil))
    (sSeq (sDrop (eMeth "Archive" "strike" m_Archive__m_strike (eVar 0) (lCons (eVar 4) lNil)))
    (sSeq (sIf (bB (e2 (prP "Log" m_Log__same false) (eMeth "Archive" "now" m_Archive__m_now (eVar 0) lNil) (eTup (lCons (eMake "Log" m_Log__init (lCons (eVar 1) (lCons (eVar 2) lNil))) (lCons (eVar 3) lNil))))) (sRet (eC (.bl false))) sNil)
    (sSeq (sDrop (eMeth "Archive" "back" m_Archive__m_back (eVar 0) lNil))
    (sSeq (sDrop (eMeth "Archive" "back" m_Archive__m_back (eVar 0) lNil))
    (sRet (e2 (prP "Log" m_Log__same true) (eMeth "Archive" "now" m_Archive__m_now (eVar 0) lNil) (eTup (lCons (eMake "Log" m_Log__init (lCons (eVar 1) (lCons (eVar 2) lNil))) (lCons (eVar 3) lNil))))))))))))))))
theorem m__law_put_right_eq : m__law_put_right = runDef 13 (sSeq (sDrop (eMeth "Archive" "put" m_Archive__m_put (eVar 0) (lCons (eVar 4) (lCons (eVar 5) lNil))))
    (sSeq (sAsg (.tup [(.name 10), (.name 11)]) (eMeth "Archive" "now" m_Archive__m_now (eVar 0) lNil))
    (sSeq (sIf (bOr (bB (e2 neD (eVar 11) (eQ tupG (compF [12] (iSeqF (eVar 3)) (.name 12) bYes (eCall m__law_moved (lCons (eVar 12) (lCons (e2 addD (eVar 4) (eC (.int 1))) (lCons (eC (.int 1)) lNil)))))))) (bB (e2 neD (eFld ["Log"] "rows" (eVar 10)) (e2 addD (e2 addD (eSl (eVar 2) oNone (oSome (eVar 4))) (eTup (lCons (eVar 5) lNil))) (eSl (eVar 2) (oSome (eVar 4)) oNone))))) (sRet (eC (.bl false))) sNil)
    (sSeq (sSet 7 (eLst (lDrop (eCall m_all_sheets (lCons (eMake "Log" m_Log__init (lCons (eVar 1) (lCons (eVar 2) lNil))) (lCons (eVar 6) lNil))))))
    (sSeq (sSet 8 (eLst (lDrop (eCall m_all_sheets (lCons (eVar 10) (lCons (e2 addD (e2 addD (eSl (eVar 6) oNone (oSome (eVar 4))) (eTup (lCons (eC (.bl false)) lNil))) (eSl (eVar 6) (oSome (eVar 4)) oNone)) lNil))))))
    (sSeq (sFor (.name 9) (iRng1F (lCons (eQ lenG (lRd (eVar 3))) lNil)) (sIf (bOr (bB (e2 neD (e2 getD (eVar 7) (e2 getD (e2 getD (eVar 3) (eVar 9)) (eC (.int 0)))) (e2 getD (eVar 8) (e2 getD (e2 getD (eVar 11) (eVar 9)) (eC (.int 0)))))) (bB (e2 neD (e2 leD (e2 getD (e2 getD (eVar 3) (eVar 9)) (eC (.int 0))) (eVar 4)) (e2 leD (e2 getD (e2 getD (eVar 11) (eVar 9)) (eC (.int 0))) (eVar 4))))) (sRet (eC (.bl false))) sNil))
    (sSeq (sDrop (eMeth "Archive" "strike" m_Archive__m_strike (eVar 0) (lCons (eVar 4) lNil)))
    (sSeq (sIf (bB (e2 (prP "Log" m_Log__same false) (eMeth "Archive" "now" m_Archive__m_now (eVar 0) lNil) (eTup (lCons (eMake "Log" m_Log__init (lCons (eVar 1) (lCons (eVar 2) lNil))) (lCons (eVar 3) lNil))))) (sRet (eC (.bl false))) sNil)
    (sSeq (sDrop (eMeth "Archive" "back" m_Archive__m_back (eVar 0) lNil))
    (sSeq (sDrop (eMeth "Archive" "back" m_Archive__m_back (eVar 0) lNil))
    (sRet (e2 (prP "Log" m_Log__same true) (eMeth "Archive" "now" m_Archive__m_now (eVar 0) lNil) (eTup (lCons (eMake "Log" m_Log__init (lCons (eVar 1) (lCons (eVar 2) lNil))) (lCons (eVar 3) lNil))))))))))))))) := hid_eq _

noncomputable def m_law : List D → Store → R D := hid (runDef 16 (sSeq (sSet 1 (eCall m__law_dice (lCons (eVar 0) lNil)))
    (sSeq (sSet 2 (e2 addD (eC (.int 2)) (eCall m__law_draw (lCons (eVar 1) (lCons (eC (.int 6)) lNil)))))
    (sSeq (sSet 3 (eCall m__law_rows (lCons (eVar 1) (lCons (eVar 2) (lCons (eCall m__law_draw (lCons (eVar 1) (lCons (eC (.int 9)) lNil))) lNil)))))
    (sSeq (sSet 4 (eCall m__law_doing (lCons (eVar 1) (lCons (eVar 3) lNil))))
    (sSeq (sSet 5 (eLst (lDrop (eCall m__law_led (lCons (eVar 2) (lCons (eVar 3) (lCons (eVar 4) lNil)))))))
    (sSeq (sSet 6 (eQ tupG (compF [14] (iRng1F (lCons (eCall m__law_draw (lCons (eVar 1) (lCons (eC (.int 9)) lNil))) lNil)) (.name 14) bYes (eCall m__law_find (lCons (eVar 1) (lCons (eVar 2) (lCons (eVar 5) lNil)))))))
    (sSeq (sSet 7 (eCall m__law_filled (lCons (eVar 2) (lCons (eVar 3) (lCons (eVar 6) lNil)))))
    (sSeq (sIf (bB (e2 (prP "Log" m_Log__same false) (eMeth "Archive" "now" m_Archive__m_now (eVar 7) lNil) (eTup (lCons (eMake "Log" m_Log__init (lCons (eVar 2) (lCons (eVar 3) lNil))) (lCons (eVar 6) lNil))))) (sRet (eC (.bl false))) sNil)
    (sSeq (sFor (.name 8) (iRng1F (lCons (e2 addD (eQ lenG (lRd (eVar 3))) (eC (.int 1))) lNil)) (sSeq (sAsg (.tup [(.name 9), (.name 10), (.name 11)]) (eCall m__law_row (lCons (eVar 1) (lCons (eVar 2) (lCons (eC (.int 0)) lNil)))))
    (sIf (bNot (bTru (eCall m__law_put_right (lCons (eVar 7) (lCons (eVar 2) (lCons (eVar 3) (lCons (eVar 6) (lCons (eVar 8) (lCons (eTup (lCons (eVar 9) (lCons (eVar 10) (lCons (eC (.bl false)) lNil)))) (lCons (eVar 4) lNil)))))))))) (sRet (eC (.bl false))) sNil)))
    (sSeq (sFor (.name 8) (iRng1F (lCons (eQ lenG (lRd (eVar 3))) lNil)) (sSeq (sDrop (eMeth "Archive" "strike" m_Archive__m_strike (eVar 7) (lCons (eVar 8) lNil)))
    (sSeq (sAsg (.tup [(.name 12), (.name 13)]) (eMeth "Archive" "now" m_Archive__m_now (eVar 7) lNil))
    (sSeq (sIf (bOr (bB (e2 neD (eFld ["Log"] "rows" (eVar 12)) (e2 addD (eSl (eVar 3) oNone (oSome (eVar 8))) (eSl (eVar 3) (oSome (e2 addD (eVar 8) (eC (.int 1)))) oNone)))) (bB (e2 neD (eVar 13) (eQ tupG (compF [15] (iSeqF (eVar 6)) (.name 15) bYes (eCall m__law_moved (lCons (eVar 15) (lCons (e2 addD (eVar 8) (eC (.int 1))) (lCons (e1 negD (eC (.int 1))) lNil))))))))) (sRet (eC (.bl false))) sNil)
    (sSeq (sDrop (eMeth "Archive" "back" m_Archive__m_back (eVar 7) lNil))
    (sIf (bB (e2 (prP "Log" m_Log__same false) (eMeth "Archive" "now" m_Archive__m_now (eVar 7) lNil) (eTup (lCons (eMake "Log" m_Log__init (lCons (eVar 2) (lCons (eVar 3) lNil))) (lCons (eVar 6) lNil))))) (sRet (eC (.bl false))) sNil))))))
    (sRet (e2 eqD (eMeth "Archive" "steps" m_Archive__m_steps (eVar 7) lNil) (e2 addD (eQ lenG (lRd (eVar 3))) (eQ lenG (lRd (eVar 6)))))))))))))))))
theorem m_law_eq : m_law = runDef 16 (sSeq (sSet 1 (eCall m__law_dice (lCons (eVar 0) lNil)))
    (sSeq (sSet 2 (e2 addD (eC (.int 2)) (eCall m__law_draw (lCons (eVar 1) (lCons (eC (.int 6)) lNil)))))
    (sSeq (sSet 3 (eCall m__law_rows (lCons (eVar 1) (lCons (eVar 2) (lCons (eCall m__law_draw (lCons (eVar 1) (lCons (eC (.int 9)) lNil))) lNil)))))
    (sSeq (sSet 4 (eCall m__law_doing (lCons (eVar 1) (lCons (eVar 3) lNil))))
    (sSeq (sSet 5 (eLst (lDrop (eCall m__law_led (lCons (eVar 2) (lCons (eVar 3) (lCons (eVar 4) lNil)))))))
    (sSeq (sSet 6 (eQ tupG (compF [14] (iRng1F (lCons (eCall m__law_draw (lCons (eVar 1) (lCons (eC (.int 9)) lNil))) lNil)) (.name 14) bYes (eCall m__law_find (lCons (eVar 1) (lCons (eVar 2) (lCons (eVar 5) lNil)))))))
    (sSeq (sSet 7 (eCall m__law_filled (lCons (eVar 2) (lCons (eVar 3) (lCons (eVar 6) lNil)))))
    (sSeq (sIf (bB (e2 (prP "Log" m_Log__same false) (eMeth "Archive" "now" m_Archive__m_now (eVar 7) lNil) (eTup (lCons (eMake "Log" m_Log__init (lCons (eVar 2) (lCons (eVar 3) lNil))) (lCons (eVar 6) lNil))))) (sRet (eC (.bl false))) sNil)
    (sSeq (sFor (.name 8) (iRng1F (lCons (e2 addD (eQ lenG (lRd (eVar 3))) (eC (.int 1))) lNil)) (sSeq (sAsg (.tup [(.name 9), (.name 10), (.name 11)]) (eCall m__law_row (lCons (eVar 1) (lCons (eVar 2) (lCons (eC (.int 0)) lNil)))))
    (sIf (bNot (bTru (eCall m__law_put_right (lCons (eVar 7) (lCons (eVar 2) (lCons (eVar 3) (lCons (eVar 6) (lCons (eVar 8) (lCons (eTup (lCons (eVar 9) (lCons (eVar 10) (lCons (eC (.bl false)) lNil)))) (lCons (eVar 4) lNil)))))))))) (sRet (eC (.bl false))) sNil)))
    (sSeq (sFor (.name 8) (iRng1F (lCons (eQ lenG (lRd (eVar 3))) lNil)) (sSeq (sDrop (eMeth "Archive" "strike" m_Archive__m_strike (eVar 7) (lCons (eVar 8) lNil)))
    (sSeq (sAsg (.tup [(.name 12), (.name 13)]) (eMeth "Archive" "now" m_Archive__m_now (eVar 7) lNil))
    (sSeq (sIf (bOr (bB (e2 neD (eFld ["Log"] "rows" (eVar 12)) (e2 addD (eSl (eVar 3) oNone (oSome (eVar 8))) (eSl (eVar 3) (oSome (e2 addD (eVar 8) (eC (.int 1)))) oNone)))) (bB (e2 neD (eVar 13) (eQ tupG (compF [15] (iSeqF (eVar 6)) (.name 15) bYes (eCall m__law_moved (lCons (eVar 15) (lCons (e2 addD (eVar 8) (eC (.int 1))) (lCons (e1 negD (eC (.int 1))) lNil))))))))) (sRet (eC (.bl false))) sNil)
    (sSeq (sDrop (eMeth "Archive" "back" m_Archive__m_back (eVar 7) lNil))
    (sIf (bB (e2 (prP "Log" m_Log__same false) (eMeth "Archive" "now" m_Archive__m_now (eVar 7) lNil) (eTup (lCons (eMake "Log" m_Log__init (lCons (eVar 2) (lCons (eVar 3) lNil))) (lCons (eVar 6) lNil))))) (sRet (eC (.bl false))) sNil))))))
    (sRet (e2 eqD (eMeth "Archive" "steps" m_Archive__m_steps (eVar 7) lNil) (e2 addD (eQ lenG (lRd (eVar 3))) (eQ lenG (lRd (eVar 6)))))))))))))))) := hid_eq _

end TK


set_option Elab.async false
set_option linter.all false
set_option maxRecDepth 100000
set_option maxHeartbeats 4000000
namespace TK
open PySem PySem.Spec
open PyProof.Rows hiding St
open L2
/-! # the dice -/
theorem mulS {i j : Int} (h0 : 0 ≤ i) (h1 : i < 9223372036854775808) (h2 : 0 ≤ j) (h3 : j < 9223372036854775808) : mulOk i j :=
  mulOk_lt (by omega) (Nat.lt_trans (show j.natAbs < 2 ^ 64 by omega) (by decide))
theorem divS {j : Int} (h2 : 0 < j) (h3 : j < 9223372036854775808) : divOk j := divOk_lt h2 (Nat.lt_trans (show j.natAbs < 2 ^ 64 by omega) (by decide))
@[simp] theorem pow18 (st : Store) : powD (.int 10) (.int 18) st = .ok (.int 1000000000000000000) st := by
  have : ((10 : Int) ^ 18) = 1000000000000000000 := by decide
  simp [powD]
section
variable {st : Store} {n c : Nat} {cells : List Int}
/-- the store with the dice at n -/
def dS (st : Store) (n c : Nat) (a b m e : Int) : Store := st.set n (.lst [.ref c, .int a, .int b, .int m, .int e])
theorem getD_r {xs : List D} {k : Nat} {j : Int} {d : D} (h : st[n]? = some (.lst xs)) (hj : j = k) (e : xs[k]? = some d) : getD (.ref n) (.int j) st = .ok d st := by
  subst hj
  rw [getD_ref, seqOf_ref, h]
  simp [atI_nat e]
theorem dS_at {a b m e : Int} (hn : n < st.length) : (dS st n c a b m e)[n]? = some (.lst [.ref c, .int a, .int b, .int m, .int e]) := by
  unfold dS
  rw [List.getElem?_set_self hn]
theorem dS_set {a b m e a' b' m' e' : Int} : (dS st n c a b m e).set n (.lst [.ref c, .int a', .int b', .int m', .int e']) = dS st n c a' b' m' e' := by
  unfold dS
  rw [List.set_set]
theorem dS_len {a b m e : Int} : (dS st n c a b m e).length = st.length := by simp [dS]
theorem dS0 {a b m e : Int} (hn : n < st.length) : getD (.ref n) (.int 0) (dS st n c a b m e) = .ok (.ref c) (dS st n c a b m e) := getD_r (k := 0) (dS_at hn) rfl rfl
theorem dS1 {a b m e : Int} (hn : n < st.length) : getD (.ref n) (.int 1) (dS st n c a b m e) = .ok (.int a) (dS st n c a b m e) := getD_r (k := 1) (dS_at hn) rfl rfl
theorem dS2 {a b m e : Int} (hn : n < st.length) : getD (.ref n) (.int 2) (dS st n c a b m e) = .ok (.int b) (dS st n c a b m e) := getD_r (k := 2) (dS_at hn) rfl rfl
theorem dS3 {a b m e : Int} (hn : n < st.length) : getD (.ref n) (.int 3) (dS st n c a b m e) = .ok (.int m) (dS st n c a b m e) := getD_r (k := 3) (dS_at hn) rfl rfl
theorem dS4 {a b m e : Int} (hn : n < st.length) : getD (.ref n) (.int 4) (dS st n c a b m e) = .ok (.int e) (dS st n c a b m e) := getD_r (k := 4) (dS_at hn) rfl rfl
theorem dSc {a b m e : Int} (hc : c ≠ n) (h : st[c]? = some (.lst (cells.map D.int))) : (dS st n c a b m e)[c]? = some (.lst (cells.map D.int)) := by
  unfold dS
  rw [List.getElem?_set_ne (Ne.symm hc)]
  exact h
theorem sSub_d {fo fi fe : EF} {env : AEnv} {s0 s1 : Store} {xs : List D} {k : Nat} {y : D} (h1 : fe env s0 = .ok y s1) (h2 : fo env s1 = .ok (.ref n) s1) (h3 : fi env s1 = .ok (.int k) s1) (h : s1[n]? = some (.lst xs)) (hk : k < xs.length) :
    sSub fo fi fe env s0 = .next env (s1.set n (.lst (xs.set k y))) := by
  have hx : ixN xs.length (k : Int) = some k := by
    unfold ixN
    rw [if_pos (by omega), if_pos (by omega)]
    simp
  simp [h1, h2, h3, h, hx]
theorem sub1 {a b m e v : Int} {fe : EF} {o : List (Option D)} {s0 : Store} (hn : n < st.length) (h : fe (some (.ref n) :: o) s0 = .ok (.int v) (dS st n c a b m e)) :
    sSub (eVar 0) (eC (.int 1)) fe (some (.ref n) :: o) s0 = .next (some (.ref n) :: o) (dS st n c v b m e) := by
  rw [sSub_d (k := 1) h (by simp) (by simp) (dS_at hn) (by simp)]
  simp [dS]
theorem sub2 {a b m e v : Int} {fe : EF} {o : List (Option D)} {s0 : Store} (hn : n < st.length) (h : fe (some (.ref n) :: o) s0 = .ok (.int v) (dS st n c a b m e)) :
    sSub (eVar 0) (eC (.int 2)) fe (some (.ref n) :: o) s0 = .next (some (.ref n) :: o) (dS st n c a v m e) := by
  rw [sSub_d (k := 2) h (by simp) (by simp) (dS_at hn) (by simp)]
  simp [dS]
theorem sub3 {a b m e v : Int} {fe : EF} {o : List (Option D)} {s0 : Store} (hn : n < st.length) (h : fe (some (.ref n) :: o) s0 = .ok (.int v) (dS st n c a b m e)) :
    sSub (eVar 0) (eC (.int 3)) fe (some (.ref n) :: o) s0 = .next (some (.ref n) :: o) (dS st n c a b v e) := by
  rw [sSub_d (k := 3) h (by simp) (by simp) (dS_at hn) (by simp)]
  simp [dS]
theorem sub4 {a b m e v : Int} {fe : EF} {o : List (Option D)} {s0 : Store} (hn : n < st.length) (h : fe (some (.ref n) :: o) s0 = .ok (.int v) (dS st n c a b m e)) :
    sSub (eVar 0) (eC (.int 4)) fe (some (.ref n) :: o) s0 = .next (some (.ref n) :: o) (dS st n c a b m v) := by
  rw [sSub_d (k := 4) h (by simp) (by simp) (dS_at hn) (by simp)]
  simp [dS]
noncomputable def drawHead : SF := (sIf (bAnd (bB (e2 eqD (e2 getD (eVar 0) (eC (.int 2))) (eC (.int 0)))) (bB (e2 ltD (e2 getD (eVar 0) (eC (.int 1))) (eQ lenG (lRd (e2 getD (eVar 0) (eC (.int 0)))))))) (sSeq (sSet 3 (e2 getD (e2 getD (eVar 0) (eC (.int 0))) (e2 getD (eVar 0) (eC (.int 1)))))
    (sSeq (sSub (eVar 0) (eC (.int 1)) (e2 addD (e2 getD (eVar 0) (eC (.int 1))) (eC (.int 1))))
    (sIf (bB (e2 geD (eVar 3) (e2 powD (eC (.int 10)) (eC (.int 18))))) (sSub (eVar 0) (eC (.int 2)) (eVar 3)) (sSub (eVar 0) (eC (.int 3)) (e2 modD (eB intG (lCons (e2 addD (e2 addD (e2 mulD (e2 getD (eVar 0) (eC (.int 3))) (eC (.int 69621))) (e2 mulD (eVar 3) (eC (.int 40692)))) (e2 getD (eVar 0) (eC (.int 1)))) lNil)) (eC (.int 2147483647))))))) sNil)
noncomputable def drawTail : SF := (sSeq (sIf (bB (e2 gtD (e2 getD (eVar 0) (eC (.int 2))) (eC (.int 0)))) (sSeq (sSet 4 (e2 modD (eB intG (lCons (e2 getD (eVar 0) (eC (.int 2))) lNil)) (eVar 1)))
    (sSeq (sSub (eVar 0) (eC (.int 2)) (e2 divD (eB intG (lCons (e2 getD (eVar 0) (eC (.int 2))) lNil)) (eVar 1)))
    (sRet (eVar 4)))) sNil)
    (sSeq (sSub (eVar 0) (eC (.int 4)) (e2 addD (e2 getD (eVar 0) (eC (.int 4))) (eC (.int 1))))
    (sSeq (sSub (eVar 0) (eC (.int 3)) (e2 modD (eB intG (lCons (e2 addD (e2 addD (e2 mulD (e2 getD (eVar 0) (eC (.int 3))) (eC (.int 48271))) (e2 mulD (e2 getD (eVar 0) (eC (.int 4))) (eC (.int 7919)))) (eC (.int 1))) lNil)) (eC (.int 2147483647))))
    (sSeq (sSet 2 (e2 modD (eB intG (lCons (e2 mulD (e2 getD (eVar 0) (eC (.int 3))) (e2 addD (e2 divD (e2 getD (eVar 0) (eC (.int 3))) (eC (.int 1009))) (eC (.int 69623)))) lNil)) (eC (.int 2147483399))))
    (sSeq (sSet 2 (e2 modD (eB intG (lCons (e2 mulD (eVar 2) (e2 addD (e2 divD (eVar 2) (eC (.int 2003))) (eC (.int 40693)))) lNil)) (eC (.int 2147483563))))
    (sRet (e2 modD (eB intG (lCons (e2 divD (eVar 2) (eC (.int 16))) lNil)) (eVar 1))))))))
theorem draw_cut : m__law_draw = runDef 5 (sSeq drawHead drawTail) := m__law_draw_eq

theorem hx0 : ixN 5 0 = some 0 := rfl
theorem hx1 : ixN 5 1 = some 1 := rfl
theorem hx2 : ixN 5 2 = some 2 := rfl
theorem hx3 : ixN 5 3 = some 3 := rfl
theorem hx4 : ixN 5 4 = some 4 := rfl
theorem tail_ok {s a b m e : Int} (hn : n < st.length) (hb : 0 ≤ b) (hm0 : 0 ≤ m) (hm : m < 2147483647) (he0 : 0 ≤ e) (he : e < 1000000000) (hs0 : 0 < s) (hs : s < 1000000) (o2 o3 o4 : Option D) :
    ∃ r b' m' e', drawTail [some (.ref n), some (.int s), o2, o3, o4] (dS st n c a b m e) = .ret (.int r) (dS st n c a b' m' e') ∧ 0 ≤ r ∧ r < s ∧ 0 ≤ b' ∧ 0 ≤ m' ∧ m' < 2147483647 ∧ 0 ≤ e' ∧ e' ≤ e + 1 := by
  have d0 : divOk s := divS hs0 (by omega)
  by_cases h : 0 < b
  · refine ⟨b % s, b / s, m, e, ?_, Int.emod_nonneg _ (by omega), Int.emod_lt_of_pos _ hs0, Int.ediv_nonneg hb (by omega), hm0, hm, he0, by omega⟩
    simp [drawTail, dS2 hn, dS_at hn, dS_set, hx2, h, hs0, d0]
  · obtain rfl : b = 0 := by omega
    have d1 : divOk 1009 := divS (by decide) (by decide)
    have d2 : divOk 2003 := divS (by decide) (by decide)
    have d3 : divOk 16 := divS (by decide) (by decide)
    have k1 : mulOk m 48271 := mulS hm0 (by omega) (by decide) (by decide)
    have k2 : mulOk (e + 1) 7919 := mulS (by omega) (by omega) (by decide) (by decide)
    obtain ⟨m1, hm1⟩ : ∃ m1, m1 = (m * 48271 + (e + 1) * 7919 + 1) % 2147483647 := ⟨_, rfl⟩
    have b1 : 0 ≤ m1 ∧ m1 < 2147483647 := by omega
    have k3 : mulOk m1 (m1 / 1009 + 69623) := mulS b1.1 (by omega) (by omega) (by omega)
    obtain ⟨m2, hm2⟩ : ∃ m2, m2 = (m1 * (m1 / 1009 + 69623)) % 2147483399 := ⟨_, rfl⟩
    have b2 : 0 ≤ m2 ∧ m2 < 2147483399 := by rw [hm2]; exact ⟨Int.emod_nonneg _ (by decide), Int.emod_lt_of_pos _ (by decide)⟩
    have k4 : mulOk m2 (m2 / 2003 + 40693) := mulS b2.1 (by omega) (by omega) (by omega)
    obtain ⟨m3, hm3⟩ : ∃ m3, m3 = (m2 * (m2 / 2003 + 40693)) % 2147483563 := ⟨_, rfl⟩
    refine ⟨m3 / 16 % s, 0, m1, e + 1, ?_, Int.emod_nonneg _ (by omega), Int.emod_lt_of_pos _ hs0, by omega, b1.1, b1.2, by omega, by omega⟩
    simp [drawTail, dS2 hn, dS3 hn, dS4 hn, dS_at hn, dS_set, hx2, hx3, hx4, hs0, k1, k2, k3, k4, d1, d2, d3, ← hm1, ← hm2, ← hm3]
theorem head_ok {s a b m e : Int} (hn : n < st.length) (hc : c ≠ n) (hcell : st[c]? = some (.lst (cells.map D.int))) (hpos : ∀ x ∈ cells, 0 ≤ x) (ha : 0 ≤ a) (hb : 0 ≤ b) (hm0 : 0 ≤ m) (hm : m < 2147483647) :
    ∃ a' b' m' o3, drawHead [some (.ref n), some (.int s), none, none, none] (dS st n c a b m e) = .next [some (.ref n), some (.int s), none, o3, none] (dS st n c a' b' m' e) ∧ 0 ≤ a' ∧ 0 ≤ b' ∧ 0 ≤ m' ∧ m' < 2147483647 := by
  have hz := dSc (a := a) (b := b) (m := m) (e := e) hc hcell
  by_cases h : b = 0
  · subst h
    by_cases h2 : a < cells.length
    · obtain ⟨k, rfl⟩ : ∃ k : Nat, a = k := ⟨a.toNat, by omega⟩
      have hk : k < cells.length := by omega
      have hx := getD_r (j := (k : Int)) (dSc (a := (k : Int)) (b := 0) (m := m) (e := e) hc hcell) rfl (show (cells.map D.int)[k]? = some (.int cells[k]) by rw [List.getElem?_map, List.getElem?_eq_getElem hk]; rfl)
      obtain ⟨x, ex⟩ : ∃ x, x = cells[k] := ⟨_, rfl⟩
      have px : 0 ≤ x := by rw [ex]; exact hpos _ (List.getElem_mem _)
      rw [← ex] at hx
      by_cases h3 : 1000000000000000000 ≤ x
      · refine ⟨k + 1, x, m, some (.int x), ?_, by omega, px, hm0, hm⟩
        simp [drawHead, dS0 hn, dS1 hn, dS2 hn, dS_at hn, dS_set, hx1, hx2, hz, hk, hx, h3]
      · have k1 : mulOk m 69621 := mulS hm0 (by omega) (by decide) (by decide)
        have k2 : mulOk x 40692 := mulS px (by omega) (by decide) (by decide)
        refine ⟨k + 1, 0, (m * 69621 + x * 40692 + (k + 1)) % 2147483647, some (.int x), ?_, by omega, by omega, by omega, by omega⟩
        simp [drawHead, dS0 hn, dS1 hn, dS2 hn, dS3 hn, dS_at hn, dS_set, hx1, hx3, hz, hk, hx, h3, k1, k2]
    · refine ⟨a, 0, m, none, ?_, ha, by omega, hm0, hm⟩
      simp [drawHead, dS0 hn, dS1 hn, dS2 hn, hz, h2]
  · refine ⟨a, b, m, none, ?_, ha, hb, hm0, hm⟩
    simp [drawHead, dS2 hn, h]
/-- the dice stand at n, no more than k times thrown without digits -/
def Dice (n : Nat) (k : Int) (st : Store) : Prop := ∃ (c : Nat) (cells : List Int) (a b m e : Int), st = dS st n c a b m e ∧ n < st.length ∧ c < n ∧ st[c]? = some (.lst (cells.map D.int)) ∧ (∀ x ∈ cells, 0 ≤ x) ∧ 0 ≤ a ∧ 0 ≤ b ∧ 0 ≤ m ∧ m < 2147483647 ∧ 0 ≤ e ∧ e ≤ k
/-- all but the dice unchanged -/
def SameBut (n : Nat) (st st' : Store) : Prop := st'.length = st.length ∧ ∀ i, i ≠ n → st'[i]? = st[i]?
theorem SameBut.refl {n : Nat} {st : Store} : SameBut n st st := ⟨rfl, fun _ _ => rfl⟩
theorem SameBut.trans {n : Nat} {st st1 st2 : Store} (h : SameBut n st st1) (k : SameBut n st1 st2) : SameBut n st st2 := ⟨k.1.trans h.1, fun i hi => (k.2 i hi).trans (h.2 i hi)⟩
theorem dS_same {a b m e : Int} : SameBut n st (dS st n c a b m e) := ⟨dS_len, fun i hi => by unfold dS; rw [List.getElem?_set_ne (Ne.symm hi)]⟩
theorem draw_ok {s k : Int} (h : Dice n k st) (hk : k < 1000000000) (hs0 : 0 < s) (hs : s < 1000000) :
    ∃ r st', gcH st (m__law_draw [.ref n, .int s] st) = .ok (.int r) st' ∧ 0 ≤ r ∧ r < s ∧ Dice n (k + 1) st' ∧ SameBut n st st' := by
  obtain ⟨c, cells, a, b, m, e, h0, hn, hc, hcell, hpos, ha, hb, hm0, hm, he0, he⟩ := h
  obtain ⟨a', b', m', o3, e1, ha', hb', hm0', hm'⟩ := head_ok (s := s) (e := e) hn (Nat.ne_of_lt hc) hcell hpos ha hb hm0 hm
  obtain ⟨r, b2, m2, e2, e3, hr0, hr, hb2, hm20, hm2, he20, he2⟩ := tail_ok (c := c) (a := a') (o2 := none) (o3 := o3) (o4 := none) hn hb' hm0' hm' he0 (by omega) hs0 hs
  have ed : m__law_draw [.ref n, .int s] st = .ok (.int r) (dS st n c a' b2 m2 e2) := by
    rw [draw_cut, h0]
    simp only [runDef_ap, sSeq_ap]
    have e1' : drawHead (List.map some [D.ref n, D.int s] ++ List.replicate (5 - [D.ref n, D.int s].length) none) (dS st n c a b m e) = .next [some (.ref n), some (.int s), none, o3, none] (dS st n c a' b' m' e) := e1
    rw [e1']
    simp only [sThen_next]
    rw [e3, ← h0]
  refine ⟨r, dS st n c a' b2 m2 e2, ?_, hr0, hr, ?_, dS_same⟩
  · rw [ed]
    unfold dS
    exact gcR_set rfl (by simp [closedO, closeds, closed]; omega)
  · refine ⟨c, cells, a', b2, m2, e2, ?_, by rw [dS_len]; exact hn, hc, ?_, hpos, ha', hb2, hm20, hm2, he20, by omega⟩
    · unfold dS; rw [List.set_set]
    · exact dSc (Nat.ne_of_lt hc) hcell
end
end TK

set_option Elab.async false
set_option linter.all false
set_option maxRecDepth 100000
set_option maxHeartbeats 4000000
namespace TK
open PySem PySem.Spec
open PyProof.Rows hiding St
open L2
/-! # what the laws draw: offices, rows, doings -/
section
variable {st s1 : Store} {n : Nat} {k : Int}
theorem Dice.mono {n : Nat} {k k' : Int} (h : Dice n k st) (hk : k ≤ k') : Dice n k' st := by
  obtain ⟨c, cells, a, b, m, e, h0, hn, hc, hcell, hpos, ha, hb, hm0, hm, he0, he⟩ := h
  exact ⟨c, cells, a, b, m, e, h0, hn, hc, hcell, hpos, ha, hb, hm0, hm, he0, by omega⟩
theorem Dice.lt (h : Dice n k st) : n < st.length := by
  obtain ⟨c, cells, a, b, m, e, h0, hn, _⟩ := h
  exact hn
theorem Dice.app (h : Dice n k st) (x : Store) : Dice n k (st ++ x) := by
  obtain ⟨c, cells, a, b, m, e, h0, hn, hc, hcell, hr⟩ := h
  refine ⟨c, cells, a, b, m, e, ?_, by simp; omega, hc, ?_, hr⟩
  · unfold dS at h0 ⊢
    rw [List.set_append_left _ _ hn, ← h0]
  · rw [List.getElem?_append_left (by omega)]; exact hcell
/-- the store grown, all old objects but the dice as they were -/
def Near (n : Nat) (st s' : Store) : Prop := st.length ≤ s'.length ∧ ∀ i, i < st.length → i ≠ n → s'[i]? = st[i]?
theorem SameBut.near (h : SameBut n st s1) : Near n st s1 := ⟨Nat.le_of_eq h.1.symm, fun i _ hn => h.2 i hn⟩
theorem Near.refl : Near n st st := ⟨Nat.le_refl _, fun _ _ _ => rfl⟩
theorem Near.app (x : Store) : Near n st (st ++ x) := ⟨by simp, fun i h _ => List.getElem?_append_left h⟩
theorem Near.trans {s2 : Store} (h : Near n st s1) (h2 : Near n s1 s2) : Near n st s2 := ⟨Nat.le_trans h.1 h2.1, fun i hi hn => (h2.2 i (Nat.lt_of_lt_of_le hi h.1) hn).trans (h.2 i hi hn)⟩
theorem Dice.cut (h : Dice n k s1) (hn : n < st.length) (hs : Near n st s1) : Dice n k (s1.take st.length) := by
  obtain ⟨c, cells, a, b, m, e, h0, hn1, hc, hcell, hr⟩ := h
  refine ⟨c, cells, a, b, m, e, ?_, by rw [List.length_take]; omega, hc, ?_, hr⟩
  · unfold dS at h0 ⊢
    rw [← List.take_set, ← h0]
  · rw [List.getElem?_take_of_lt (by omega)]; exact hcell
theorem gc_near {d : D} (h : Dice n k s1) (hn : n < st.length) (hs : Near n st s1) (hd : closed st.length d = true) : ∃ s2, gcH st (.ok d s1) = .ok d s2 ∧ Dice n k s2 ∧ SameBut n st s2 := by
  refine ⟨s1.take st.length, ?_, h.cut hn hs, ?_⟩
  · have ht : Trim st s1 := fun i hi => by
      by_cases e : i = n
      · subst e
        obtain ⟨c, cells, a, b, m, e, h0, hn1, hc, _⟩ := h
        refine .inr ⟨.lst [.ref c, .int a, .int b, .int m, .int e], ?_, ?_⟩
        · rw [h0]; exact dS_at hn1
        · simp [closedO, closeds, closed]; omega
      · exact .inl (hs.2 i hi e)
    unfold gcH
    rw [hid_eq]
    unfold gcR
    simp [ht, hd]
  · refine ⟨by rw [List.length_take]; have := hs.1; omega, fun i hi => ?_⟩
    by_cases h1 : i < st.length
    · rw [List.getElem?_take_of_lt h1]; exact hs.2 i h1 hi
    · rw [List.getElem?_eq_none (by simp; omega), List.getElem?_eq_none (by omega)]
theorem pick3 {p : Nat} {a b c r : Int} (h : st[p]? = some (.lst [.int a, .int b, .int c])) (h0 : 0 ≤ r) (h1 : r < 3) : ∃ v, getD (.ref p) (.int r) st = .ok (.int v) st := by
  obtain ⟨j, rfl⟩ : ∃ j : Nat, r = j := ⟨r.toNat, by omega⟩
  have : j = 0 ∨ j = 1 ∨ j = 2 := by omega
  rcases this with rfl | rfl | rfl
  · exact ⟨a, getD_r h rfl rfl⟩
  · exact ⟨b, getD_r h rfl rfl⟩
  · exact ⟨c, getD_r h rfl rfl⟩
def RowD (N : Int) (d : D) : Prop := ∃ x y f, d = .tup [.int x, .int y, .bl f] ∧ 0 ≤ x ∧ x < N ∧ 0 ≤ y ∧ y < N ∧ (y = x + 1 ∨ y = x - 1)
theorem row_ok {N share : Int} (h : Dice n k st) (hk : k < 100000) (h2 : 2 ≤ N) (h12 : N ≤ 12) :
    ∃ d st', gcH st (m__law_row [.ref n, .int N, .int share] st) = .ok d st' ∧ RowD N d ∧ Dice n (k + 3) st' ∧ SameBut n st st' := by
  have z3 : 3 ≤ sizeLine := szl (by omega)
  obtain ⟨x, s2, hx, x0, x1, D1, S1⟩ := draw_ok (s := N) h (by omega) (by omega) (by omega)
  by_cases e : 0 < x
  · by_cases e2 : x = N - 1
    · obtain ⟨f, s3, hf, _, _, D2, S2⟩ := draw_ok (s := 6) D1 (by omega) (by omega) (by omega)
      obtain ⟨s4, h4, D4, S4⟩ := gc_near (d := .tup [.int x, .int (x - 1), .bl (decide (f < share))]) D2 h.lt (S1.trans S2).near rfl
      refine ⟨.tup [.int x, .int (x - 1), .bl (decide (f < share))], s4, ?_, ⟨x, x - 1, _, rfl, by omega, by omega, by omega, by omega, .inr rfl⟩, D4.mono (by omega), S4⟩
      rw [m__law_row_eq, ← h4]
      simp [hx, e, ← e2, hf, okIf_pos z3]
    · obtain ⟨b, s3, hb, _, _, D2, S2⟩ := draw_ok (s := 2) D1 (by omega) (by omega) (by omega)
      obtain ⟨f, s5, hf, _, _, D3, S3⟩ := draw_ok (s := 6) D2 (by omega) (by omega) (by omega)
      by_cases e3 : b = 0
      · obtain ⟨s4, h4, D4, S4⟩ := gc_near (d := .tup [.int x, .int (x - 1), .bl (decide (f < share))]) D3 h.lt ((S1.trans S2).trans S3).near rfl
        refine ⟨.tup [.int x, .int (x - 1), .bl (decide (f < share))], s4, ?_, ⟨x, x - 1, _, rfl, by omega, by omega, by omega, by omega, .inr rfl⟩, D4.mono (by omega), S4⟩
        rw [m__law_row_eq, ← h4]
        simp [hx, e, e2, hb, e3, hf, okIf_pos z3]
      · obtain ⟨s4, h4, D4, S4⟩ := gc_near (d := .tup [.int x, .int (x + 1), .bl (decide (f < share))]) D3 h.lt ((S1.trans S2).trans S3).near rfl
        refine ⟨.tup [.int x, .int (x + 1), .bl (decide (f < share))], s4, ?_, ⟨x, x + 1, _, rfl, by omega, by omega, by omega, by omega, .inl rfl⟩, D4.mono (by omega), S4⟩
        rw [m__law_row_eq, ← h4]
        simp [hx, e, e2, hb, e3, hf, okIf_pos z3]
  · obtain ⟨f, s3, hf, _, _, D2, S2⟩ := draw_ok (s := 6) D1 (by omega) (by omega) (by omega)
    obtain ⟨s4, h4, D4, S4⟩ := gc_near (d := .tup [.int x, .int (x + 1), .bl (decide (f < share))]) D2 h.lt (S1.trans S2).near rfl
    refine ⟨.tup [.int x, .int (x + 1), .bl (decide (f < share))], s4, ?_, ⟨x, x + 1, _, rfl, by omega, by omega, by omega, by omega, .inl rfl⟩, D4.mono (by omega), S4⟩
    rw [m__law_row_eq, ← h4]
    simp [hx, e, hf, okIf_pos z3]
theorem rowD_closed {N : Int} {j : Nat} : ∀ {ds : List D}, (∀ d ∈ ds, RowD N d) → closeds j ds = true
  | [], _ => rfl
  | d :: ds, h => by
    obtain ⟨x, y, f, rfl, _⟩ := h d (by simp)
    simp [closeds, closed, rowD_closed fun d hd => h d (List.mem_cons_of_mem _ hd)]
theorem rows_ok {N : Int} {M : Nat} (h : Dice n k st) (hk : k < 10000) (h1 : 1 ≤ N) (h12 : N ≤ 12) (hM : M ≤ 1000) :
    ∃ rows st', gcH st (m__law_rows [.ref n, .int N, .int M] st) = .ok (.tup rows) st' ∧ (∀ d ∈ rows, RowD N d) ∧ rows.length ≤ M ∧ Dice n (k + 1 + 3 * M) st' ∧ SameBut n st st' := by
  have z3 : 3 ≤ sizeLine := szl (by omega)
  have z0 : (0 : Nat) ≤ sizeLine := szl (by omega)
  have zM : M ≤ sizeLine := szl (by omega)
  obtain ⟨b, s2, hb, b0, b1, D1, S1⟩ := draw_ok (s := 3) (h.app [.lst [.int 0, .int 1, .int 3]]) (by omega) (by omega) (by omega)
  have hp : s2[st.length]? = some (.lst [.int 0, .int 1, .int 3]) := by
    rw [S1.2 _ (Nat.ne_of_gt h.lt)]; simp
  obtain ⟨v, hv⟩ := pick3 hp b0 b1
  have N1 : Near n st s2 := (Near.app _).trans S1.near
  by_cases e : N = 1
  · obtain ⟨s4, h4, D4, S4⟩ := gc_near (d := .tup []) D1 h.lt N1 rfl
    refine ⟨[], s4, ?_, by simp, by simp, D4.mono (by omega), S4⟩
    rw [m__law_rows_eq, ← h4]
    simp [hb, hv, e, okIf_pos z3, okIf_pos z0]
  · rw [m__law_rows_eq]
    simp [hb, hv, e, okIf_pos z3, rngR_nat (n := M) (show M ≤ 1000000 by omega), okIf_pos zM]
    generalize hq : compL _ _ _ _ _ _ _ = r
    obtain ⟨ys, s, rfl, hy, hl, D2, N2⟩ := compL_ok hq (fun i acc s => (∀ d ∈ acc, RowD N d) ∧ acc.length = i ∧ Dice n (k + 1 + 3 * i) s ∧ Near n s2 s) ⟨by simp, rfl, by simpa using D1, .refl⟩ fun i d acc s hI hd => by
      obtain ⟨ha, hl, hD, hN⟩ := hI
      have hi : i < M := by
        rw [rangeD_get] at hd
        split at hd
        · assumption
        · cases hd
      obtain ⟨d', s', hd', hR, hD', hS'⟩ := row_ok (N := N) (share := v) hD (by omega) (by omega) h12
      refine ⟨_, asgT_name _ _ _, .inl ⟨d', s, s', rfl, by simp [hd'], by simp, fun y hy => ?_, by simp [hl], hD'.mono (by omega), hN.trans hS'.near⟩⟩
      rcases List.mem_append.mp hy with hy | hy
      · exact ha y hy
      · obtain rfl : y = d' := by simpa using hy
        exact hR
    have hl : ys.length = M := by simpa using hl
    have D2 : Dice n (k + 1 + 3 * M) s := by simpa using D2
    obtain ⟨s4, h4, D4, S4⟩ := gc_near (d := .tup ys) D2 h.lt (N1.trans N2) (by simp [closed, rowD_closed hy])
    exact ⟨ys, s4, by simp [h4], hy, by omega, D4, S4⟩
end
end TK

set_option Elab.async false
set_option linter.all false
set_option maxRecDepth 100000
set_option maxHeartbeats 4000000
namespace TK
open PySem PySem.Spec
open PyProof.Rows hiding St
open L2
/-! # checks, sameness, the first dice, sorting: as in many laws -/
variable {st : Store}
theorem is_integer_ok (i : Int) : m_is_integer [.int i] st = .ok (.bl true) st := by
  simp [m_is_integer_eq]
theorem is_within_ok (i lo hi : Int) : m_is_within [.int i, .int lo, .int hi] st = .ok (.bl (decide (lo ≤ i) && decide (i ≤ hi))) st := by
  simp [m_is_within_eq, is_integer_ok]
  by_cases h : lo ≤ i <;> simp [h]
def plainT : Nat → D → Prop
  | _, .bl _ => True
  | _, .int _ => True
  | k + 1, .tup ds => ds.length ≤ 1000 ∧ ∀ d ∈ ds, plainT k d
  | _, _ => False
theorem zipD_lenS : ∀ ds : List D, (zipD ds ds).length = ds.length
  | [] => rfl
  | d :: ds => by simp [zipD, zipD_lenS ds]
theorem zipD_mem : ∀ {ds : List D} {d : D}, d ∈ zipD ds ds → ∃ x ∈ ds, d = .tup [x, x]
  | [], d, h => by simp [zipD] at h
  | x :: ds, d, h => by
    rw [zipD, List.mem_cons] at h
    rcases h with rfl | h
    · exact ⟨x, by simp, rfl⟩
    · obtain ⟨y, hy, e⟩ := zipD_mem h
      exact ⟨y, by simp [hy], e⟩
theorem boolsOf_true : ∀ l : List D, boolsOf (l.map fun _ => D.bl true) = some (l.map fun _ => true)
  | [] => rfl
  | _ :: l => by simp [boolsOf, boolsOf_true l]
theorem allG_true (l : List D) (st : Store) : allG (l.map fun _ => D.bl true) st = .ok (.bl true) st := by
  unfold allG
  rw [boolsOf_true]
  simp
theorem cutD_mem {xs : List D} {lo hi : Option Int} {d : D} (h : d ∈ cutD xs lo hi) : d ∈ xs := by
  unfold cutD at h
  exact List.mem_of_mem_drop (List.mem_of_mem_take h)
theorem cutD_lenZ (xs : List D) (lo hi : Option Int) : (cutD xs lo hi).length ≤ xs.length := by
  unfold cutD
  simp only [List.length_take, List.length_drop]
  omega
def absI (i : Int) : Int := if i < 0 then -i else i
theorem dice_ok (ns : List Int) (hn : ns.length ≤ 1000) : ∃ cells : List Int, (∀ x ∈ cells, 0 ≤ x) ∧ gcH [.rol (ns.map D.int)] (m__law_dice [.ref 0] [.rol (ns.map D.int)]) = .ok (.ref 2) [.rol (ns.map D.int), .lst (cells.map D.int), .lst [.ref 1, .int 0, .int 0, .int 1, .int 0]] := by
  refine ⟨(cutD (ns.map D.int) none (some 63)).map fun d => absI (intOf d), fun x hx => ?_, ?_⟩
  · obtain ⟨d, _, rfl⟩ := List.mem_map.mp hx
    unfold absI
    split <;> omega
  · have hz : (cutD (ns.map D.int) none (some 63)).length ≤ sizeLine := szl (Nat.le_trans (cutD_lenZ _ _ _) (by simp; omega))
    have hz5 : 5 ≤ sizeLine := szl (by omega)
    have e : m__law_dice [.ref 0] [.rol (ns.map D.int)] = .ok (.ref 2) [.rol (ns.map D.int), .lst (((cutD (ns.map D.int) none (some 63)).map fun d => absI (intOf d)).map D.int), .lst [.ref 1, .int 0, .int 0, .int 1, .int 0]] := by
      simp [m__law_dice_eq, okIf_pos hz]
      generalize hq : compL _ _ _ _ _ _ _ = r
      have := compL_mapE hq (by simp) (fun _ => true) (fun d => .int (absI (intOf d))) fun d hd => by
        obtain ⟨i, _, rfl⟩ := List.mem_map.mp (cutD_mem hd)
        by_cases hi : i < 0 <;> simp [absI, intOf, hi]
      subst this
      rw [map_true]
      simp [okIf_pos hz5]
    rw [e]
    unfold gcH
    rw [hid_eq]
    unfold gcR
    have ht : Trim [AO.rol (ns.map D.int)] [.rol (ns.map D.int), .lst (((cutD (ns.map D.int) none (some 63)).map fun d => absI (intOf d)).map D.int), .lst [.ref 1, .int 0, .int 0, .int 1, .int 0]] := trim_app _ [_, _]
    simp only [ht, if_true]
    simp [closed, closedO, closeds]
theorem lDrop_call {m : List D → Store → R D} {fa : LF} {env : AEnv} {as zs : List D} {p : Nat} {X : Store} (h1 : fa env st = .ok as st) (h2 : m as st = .ok (.ref p) (st ++ X)) (hp : st.length ≤ p) (h3 : (st ++ X)[p]? = some (.lst zs)) (hc : closeds st.length zs = true) :
    lDrop (eCall m fa) env st = .ok zs st := lDrop_ok (by rw [eCall_ap, h1, R.bind_ok, h2]; exact gcR_new X [] hc p h3 hp) hc
theorem insI_mem {x z : Int} : ∀ {l : List Int}, z ∈ insI x l ↔ z = x ∨ z ∈ l
  | [] => by simp [insI]
  | y :: ys => by
    unfold insI
    split
    · simp
    · simp [insI_mem (l := ys)]
      constructor
      · rintro (h | h | h) <;> simp [h]
      · rintro (h | h | h) <;> simp [h]
theorem insI_len {x : Int} : ∀ {l : List Int}, (insI x l).length = l.length + 1
  | [] => rfl
  | y :: ys => by
    unfold insI
    split
    · rfl
    · simp [insI_len (l := ys)]
theorem insI_pair {x : Int} : ∀ {l : List Int}, l.Pairwise (· ≤ ·) → (insI x l).Pairwise (· ≤ ·)
  | [], _ => by simp [insI]
  | y :: ys, h => by
    rw [List.pairwise_cons] at h
    unfold insI
    split
    · rename_i hx
      rw [List.pairwise_cons, List.pairwise_cons]
      refine ⟨fun z hz => ?_, h⟩
      rcases List.mem_cons.mp hz with rfl | hz
      · exact hx
      · have := h.1 z hz; omega
    · rename_i hx
      rw [List.pairwise_cons]
      refine ⟨fun z hz => ?_, insI_pair h.2⟩
      rcases insI_mem.mp hz with rfl | hz
      · omega
      · exact h.1 z hz
theorem sortI_mem {z : Int} : ∀ {l : List Int}, z ∈ sortI l ↔ z ∈ l
  | [] => by simp [sortI]
  | y :: ys => by simp [sortI, insI_mem, sortI_mem (l := ys)]
theorem sortI_len : ∀ {l : List Int}, (sortI l).length = l.length
  | [] => rfl
  | y :: ys => by simp [sortI, insI_len, sortI_len (l := ys)]
theorem sortI_pair : ∀ l : List Int, (sortI l).Pairwise (· ≤ ·)
  | [] => by simp [sortI]
  | y :: ys => by rw [sortI]; exact insI_pair (sortI_pair ys)
theorem intsOf_ints : ∀ ns : List Int, intsOf (ns.map D.int) = some ns
  | [] => rfl
  | n :: ns => by simp [intsOf, intsOf_ints ns]
theorem sortG_ints (ns : List Int) : sortG (ns.map D.int) st = .ok ((sortI ns).map D.int) st := by
  unfold sortG
  rw [intsOf_ints]

theorem insI_low {x : Int} : ∀ {l : List Int}, (∀ y ∈ l, x ≤ y) → insI x l = x :: l
  | [], _ => rfl
  | y :: ys, h => by
    unfold insI
    rw [if_pos (h y (by simp))]
theorem sortI_id : ∀ {l : List Int}, l.Pairwise (· ≤ ·) → sortI l = l
  | [], _ => rfl
  | x :: xs, h => by
    rw [List.pairwise_cons] at h
    rw [sortI, sortI_id h.2, insI_low h.1]
@[simp] theorem neD_ints (xs ys : List Int) : neD (.tup (xs.map D.int)) (.tup (ys.map D.int)) st = .ok (.bl (decide (xs ≠ ys))) st := by
  unfold neD eqP
  rw [toP_ints, toP_ints]
  simp only [shaped_ints, and_self, if_true]
  show R.ok (D.bl (!PyData.eqvAll (pyI xs) (pyI ys))) st = _
  rw [eqv_ints]
  simp
theorem mapM_ints {f : D → Option PyData} (h : ∀ i, f (.int i) = some (.int i)) : ∀ xs : List Int, (xs.map D.int).mapM f = some (pyI xs)
  | [] => rfl
  | x :: xs => by
    rw [List.map_cons, List.mapM_cons, h, mapM_ints h xs]
    rfl
theorem toP_ref {a : Nat} {xs : List Int} (h : st[a]? = some (.lst (xs.map D.int))) : toP st 50 (.ref a) = some (.list (pyI xs)) := by
  show (match seqOf (.ref a) st with
    | some ds => (ds.mapM (toP st 49)).map PyData.list
    | none => none) = _
  rw [seqOf_ref, h]
  simp only [mapM_ints (f := toP st 49) (fun i => rfl) xs]
  rfl
theorem shaped_list (ns : List Int) : SeqAt.shaped (.list (pyI ns)) = true := by
  unfold SeqAt.shaped
  have h1 : (PyData.list (pyI ns)).canLay0 = true := canLay_ints ns
  have h2 : (PyData.list (pyI ns)).depth ≤ 64 := by
    show PyData.depthAll (pyI ns) + 1 ≤ 64
    rw [depthAll_ints]; decide
  simp [h1, h2]
theorem neD_refs {a b : Nat} {xs ys : List Int} (ha : st[a]? = some (.lst (xs.map D.int))) (hb : st[b]? = some (.lst (ys.map D.int))) : neD (.ref a) (.ref b) st = .ok (.bl (decide (xs ≠ ys))) st := by
  unfold neD eqP
  rw [toP_ref ha, toP_ref hb]
  simp only [shaped_list, and_self, if_true]
  show R.ok (D.bl (!PyData.eqvAll (pyI xs) (pyI ys))) st = _
  rw [eqv_ints]
  simp
end TK

set_option Elab.async false
set_option linter.all false
set_option maxRecDepth 100000
set_option maxHeartbeats 4000000
namespace TK
open PySem PySem.Spec
open PyProof.Rows hiding St
open L2
/-! # logs, doings, led sheets -/
@[simp] theorem eFld_ap (cs : List Str) (f : Str) (fe : EF) (env : AEnv) (st : Store) : eFld cs f fe env st = ((fe env st).bind fun d st1 => match d with
  | .ref n => (match st1[n]? with
    | some (.ins c fs) => if c ∈ cs then (match fs.lookup f with
      | some d => .ok d st1
      | none => .bad) else .bad
    | _ => .bad)
  | _ => .bad) := (Eq.refl _).trans rfl
@[simp] theorem sFldA_ap (cs : List Str) (f : Str) (fo fe : EF) (env : AEnv) (st : Store) : sFldA cs f fo fe env st = (sOf (fe env st) env fun y st1 => sOf (fo env st1) env fun x st2 => match x with
  | .ref n => (match st2[n]? with
    | some (.ins c fs) => if c ∈ cs ∧ fs.length < 1000 then .next env (st2.set n (.ins c (putFD f y fs))) else .bad
    | _ => .bad)
  | _ => .bad) := (Eq.refl _).trans rfl
variable {st : Store}
/-- a row: from, to, sure -/
structure Rw where
  x : Nat
  y : Nat
  f : Bool
def rwD (r : Rw) : D := .tup [.int r.x, .int r.y, .bl r.f]
def RwOk (N : Nat) (r : Rw) : Prop := r.x < N ∧ r.y < N ∧ (r.y = r.x + 1 ∨ r.x = r.y + 1)
theorem rowD_rw {N : Nat} {d : D} (h : RowD N d) : ∃ r, d = rwD r ∧ RwOk N r := by
  obtain ⟨x, y, f, rfl, h1, h2, h3, h4, h5⟩ := h
  refine ⟨⟨x.toNat, y.toNat, f⟩, ?_, ?_⟩
  · have e1 : ((x.toNat : Nat) : Int) = x := by omega
    have e2 : ((y.toNat : Nat) : Int) = y := by omega
    simp [rwD, e1, e2]
  · refine ⟨?_, ?_, ?_⟩ <;> simp <;> omega
theorem rowsD_rw {N : Nat} : ∀ {ds : List D}, (∀ d ∈ ds, RowD N d) → ∃ rs : List Rw, ds = rs.map rwD ∧ ∀ r ∈ rs, RwOk N r
  | [], _ => ⟨[], rfl, by simp⟩
  | d :: ds, h => by
    obtain ⟨r, rfl, hr⟩ := rowD_rw (h d (by simp))
    obtain ⟨rs, rfl, hrs⟩ := rowsD_rw fun d hd => h d (List.mem_cons_of_mem _ hd)
    refine ⟨r :: rs, rfl, fun r' hr' => ?_⟩
    rcases List.mem_cons.mp hr' with rfl | hr'
    · exact hr
    · exact hrs r' hr'
theorem is_triple_ok (r : Rw) : m_is_triple [rwD r] st = .ok (.bl true) st := by
  simp [m_is_triple_eq, rwD]
theorem is_flag_ok (f : Bool) : m_is_flag [.bl f] st = .ok (.bl true) st := by
  simp [m_is_flag_eq]
theorem rw0 (r : Rw) : getD (rwD r) (.int 0) st = .ok (.int r.x) st := getD_at (k := 0) rfl
theorem rw1 (r : Rw) : getD (rwD r) (.int 1) st = .ok (.int r.y) st := getD_at (k := 1) rfl
theorem rw2 (r : Rw) : getD (rwD r) (.int 2) st = .ok (.bl r.f) st := getD_at (k := 2) rfl
theorem is_row_ok {N : Nat} {r : Rw} (h : RwOk N r) : m_is_row [.int N, rwD r] st = .ok (.bl true) st := by
  obtain ⟨h1, h2, h3⟩ := h
  have a1 : (r.x : Int) ≤ (N : Int) - 1 := by omega
  have a2 : (r.y : Int) ≤ (N : Int) - 1 := by omega
  have a3 : (if (r.x : Int) - (r.y : Int) < 0 then -((r.x : Int) - (r.y : Int)) else (r.x : Int) - (r.y : Int)) = 1 := by
    split <;> omega
  simp [m_is_row_eq, is_triple_ok, rw0, rw1, rw2, is_within_ok, a1, a2, a3, is_flag_ok]
theorem enum_get : ∀ {ds : List D} {k i : Nat} {d : D}, (enumFrom k ds)[i]? = some d → ∃ x, d = .tup [.int (k + i : Nat), x] ∧ ds[i]? = some x
  | [], k, i, d, h => by simp [enumFrom] at h
  | x :: ds, k, i, d, h => by
    rw [enumFrom] at h
    cases i with
    | zero => simp at h; exact ⟨x, by simp [← h], rfl⟩
    | succ i =>
      rw [List.getElem?_cons_succ] at h
      obtain ⟨y, e, hy⟩ := enum_get h
      exact ⟨y, by rw [e]; simp; omega, by simpa using hy⟩
theorem first_bad_ok {N : Nat} {rs : List Rw} (h : ∀ r ∈ rs, RwOk N r) : m_first_bad [.int N, .tup (rs.map rwD)] st = .ok .non st := by
  simp [m_first_bad_eq]
  generalize hq : loopF _ _ _ _ _ _ = r
  obtain ⟨e, s, rfl, o2, o3, rfl, rfl⟩ := loopF_next hq (fun i env s => ∃ o2 o3, env = [some (.int N), some (.tup (rs.map rwD)), o2, o3] ∧ s = st) ⟨none, none, rfl, rfl⟩ fun i d env s hI hd => by
    obtain ⟨o2, o3, rfl, rfl⟩ := hI
    obtain ⟨x, rfl, hx⟩ := enum_get hd
    obtain ⟨r, hr, rfl⟩ := List.mem_map.mp (List.mem_of_getElem? hx)
    refine ⟨[some (.int N), some (.tup (rs.map rwD)), some (.int (0 + i : Nat)), some (rwD r)], by simp, _, s, .inl (by simp [is_row_ok (h r hr)]; exact ⟨rfl, rfl⟩), by simp, _, _, rfl, rfl⟩
  simp
def logO (N : Nat) (rs : List Rw) : AO := .ins "Log" [("offices", .int N), ("rows", .tup (rs.map rwD))]
theorem log_init {N : Nat} {rs : List Rw} (h1 : 1 ≤ N) (h12 : N ≤ 12) (hl : rs.length ≤ 60) (h : ∀ r ∈ rs, RwOk N r) :
    m_Log__init [.ref st.length, .int N, .tup (rs.map rwD)] (st ++ [.ins "Log" []]) = .ok .non (st ++ [logO N rs]) := by
  have a1 : (1 : Int) ≤ N := by omega
  have a2 : (N : Int) ≤ 12 := by omega
  have a3 : ((60 : Int) < (rs.length : Int)) = False := by simp; omega
  have hne : ¬ (Str.ofString "offices") = (Str.ofString "rows") := by decide +kernel
  simp [m_Log__init_eq, is_within_ok, a1, a2, a3, first_bad_ok h, putFD, logO, hne]
theorem log_make {N : Nat} {rs : List Rw} {fr : LF} {env : AEnv} (hf : fr env st = .ok [.int N, .tup (rs.map rwD)] st) (h1 : 1 ≤ N) (h12 : N ≤ 12) (hl : rs.length ≤ 60) (h : ∀ r ∈ rs, RwOk N r) :
    eMake "Log" m_Log__init fr env st = .ok (.ref st.length) (st ++ [logO N rs]) := by
  have hc : ∀ (rs : List Rw) n, closeds n (rs.map rwD) = true := by
    intro rs n
    induction rs with
    | nil => rfl
    | cons r rs ih => simp [closeds, closed, rwD, ih]
  unfold eMake
  rw [hf, R.bind_ok, log_init h1 h12 hl h]
  unfold mkR gcR
  simp [trim_app, closed, logO, closedO, closedF, hc]
/-! ### sheets led through a row -/
def cpL (xs : List Int) (r : Rw) : List Int := xs.set r.x (xs.getD r.y 0)
def RowS (N : Nat) (xs : List Int) : Prop := xs.length = N ∧ ris ((N : Int) - 1) 0 xs
theorem cpL_ok {N : Nat} {xs : List Int} {r : Rw} (h : RowS N xs) (hr : RwOk N r) : RowS N (cpL xs r) := by
  obtain ⟨hl, hs⟩ := h
  obtain ⟨h1, h2, h3⟩ := hr
  obtain ⟨hp, hb⟩ := ris_all hs
  have ey : xs.getD r.y 0 = xs[r.y] := by rw [List.getD_eq_getElem?_getD, List.getElem?_eq_getElem (by omega)]; rfl
  have ec : cpL xs r = xs.set r.x xs[r.y] := by unfold cpL; rw [ey]
  rw [ec]
  refine ⟨by simp [hl], ris_of ?_ fun z hz => ?_⟩
  · rw [List.pairwise_iff_getElem] at hp ⊢
    intro i j hi hj hij
    simp only [List.length_set] at hi hj
    rw [List.getElem_set, List.getElem_set]
    split
    · rename_i e
      rw [if_neg (by omega)]
      rcases Nat.lt_or_ge r.y j with q | q
      · exact hp r.y j (by omega) hj q
      · have : r.y = j := by omega
        subst this
        exact Int.le_refl _
    · split
      · rcases Nat.lt_or_ge i r.y with q | q
        · exact hp i r.y hi (by omega) q
        · have : i = r.y := by omega
          subst this
          exact Int.le_refl _
      · exact hp i j hi hj hij
  · rcases List.mem_or_eq_of_mem_set hz with hz | rfl
    · exact hb z hz
    · exact hb _ (List.getElem_mem _)
theorem cut_hi (ds : List D) (k : Nat) : cutD ds none (some (k : Int)) = ds.take k := by
  unfold cutD
  rw [HT.sIx_nat, HT.sIx_none]
  simp only [List.drop_zero, Nat.sub_zero]
  rw [List.take_eq_take_iff]
  omega
theorem cut_lo (ds : List D) (k : Nat) : cutD ds (some (k : Int)) none = ds.drop k := by
  unfold cutD
  rw [HT.sIx_nat, HT.sIx_none]
  by_cases h : k ≤ ds.length
  · rw [Nat.min_eq_left h, List.take_of_length_le (by simp)]
  · rw [Nat.min_eq_right (by omega), List.drop_of_length_le (Nat.le_refl _), List.drop_of_length_le (by omega)]
    simp
theorem copied_ok {N : Nat} {xs : List Int} {r : Rw} (hN : N ≤ 12) (h : RowS N xs) (hr : RwOk N r) : m_copied [.tup (xs.map D.int), rwD r] st = .ok (.tup ((cpL xs r).map D.int)) st := by
  obtain ⟨hl, _⟩ := h
  obtain ⟨h1, h2, h3⟩ := hr
  have g := getD_i (st := st) (xs := xs) (k := r.y) (j := (r.y : Int)) rfl (by omega)
  have c1 := cut_hi (xs.map D.int) r.x
  have c2 := cut_lo (xs.map D.int) (r.x + 1)
  have e1 : ((r.x + 1 : Nat) : Int) = (r.x : Int) + 1 := by omega
  rw [e1] at c2
  have z1 : 1 ≤ sizeLine := szl (by omega)
  have z2 : min r.x xs.length + 1 ≤ sizeLine := szl (by omega)
  have z3 : min r.x xs.length + 1 + (xs.length - (r.x + 1)) ≤ sizeLine := szl (by omega)
  have ec : (cpL xs r).map D.int = (xs.map D.int).take r.x ++ (D.int (xs.getD r.y 0) :: (xs.map D.int).drop (r.x + 1)) := by
    unfold cpL
    rw [List.set_eq_take_append_cons_drop, if_pos (by omega)]
    simp
  rw [ec]
  revert g
  generalize xs.getD r.y 0 = v
  intro g
  simp [m_copied_eq, rw0, rw1, g, c1, c2, okIf_pos z1, okIf_pos z2, okIf_pos z3]
end TK

set_option Elab.async false
set_option linter.all false
set_option maxRecDepth 100000
set_option maxHeartbeats 4000000
namespace TK
open PySem PySem.Spec
open PyProof.Rows hiding St
open L2
variable {st : Store} {n p N : Nat} {k : Int} {rs : List Rw}
theorem lkO (a b : D) : List.lookup ("offices" : Str) [(("offices" : Str), a), ("rows", b)] = some a := by
  rw [List.lookup_cons]
  rfl
theorem lkR (a b : D) : List.lookup ("rows" : Str) [(("offices" : Str), a), ("rows", b)] = some b := by
  have h : (("rows" : Str) == ("offices" : Str)) = false := by decide +kernel
  rw [List.lookup_cons, h, List.lookup_cons]
  rfl
theorem log_at (h : st[p]? = some (logO N rs)) : st[p]? = some (.ins "Log" [("offices", .int N), ("rows", .tup (rs.map rwD))]) := h
theorem row_at {i : Nat} {r : Rw} (h : rs[i]? = some r) : getD (.tup (rs.map rwD)) (.int (i : Int)) st = .ok (rwD r) st := getD_at (by rw [List.getElem?_map, h]; rfl)
/-! ### doings -/
def doOk : List Rw → List Bool → Prop
  | [], [] => True
  | r :: rs, f :: fs => (r.f = true → f = true) ∧ doOk rs fs
  | _, _ => False
theorem doOk_len : ∀ {rs : List Rw} {fs : List Bool}, doOk rs fs → fs.length = rs.length
  | [], [], _ => rfl
  | r :: rs, f :: fs, h => by simp [doOk_len h.2]
theorem doOk_snoc {r : Rw} {f : Bool} (hf : r.f = true → f = true) : ∀ {rs : List Rw} {fs : List Bool}, doOk rs fs → doOk (rs ++ [r]) (fs ++ [f])
  | [], [], _ => ⟨hf, trivial⟩
  | a :: rs, b :: fs, h => ⟨h.1, doOk_snoc hf h.2⟩
theorem bl_closed (j : Nat) : ∀ fs : List Bool, closeds j (fs.map D.bl) = true
  | [] => rfl
  | f :: fs => by simp [closeds, closed, bl_closed j fs]
theorem doing_ok (h : Dice n k st) (hk : k < 10000) (hM : rs.length ≤ 1000) :
    ∃ fs st', gcH st (m__law_doing [.ref n, .tup (rs.map rwD)] st) = .ok (.tup (fs.map D.bl)) st' ∧ doOk rs fs ∧ Dice n (k + 1 + rs.length) st' ∧ SameBut n st st' := by
  have z3 : 3 ≤ sizeLine := szl (by omega)
  have zM : rs.length ≤ sizeLine := szl (by omega)
  obtain ⟨b, s2, hb, b0, b1, D1, S1⟩ := draw_ok (s := 3) (h.app [.lst [.int 1, .int 3, .int 5]]) (by omega) (by omega) (by omega)
  have hp : s2[st.length]? = some (.lst [.int 1, .int 3, .int 5]) := by
    rw [S1.2 _ (Nat.ne_of_gt h.lt)]; simp
  obtain ⟨v, hv⟩ := pick3 hp b0 b1
  have N1 : Near n st s2 := (Near.app _).trans S1.near
  rw [m__law_doing_eq]
  simp [hb, hv, okIf_pos z3, okIf_pos zM]
  generalize hq : compL _ _ _ _ _ _ _ = r
  obtain ⟨ys, s, rfl, fs, rfl, hd, D2, N2⟩ := compL_ok hq (fun i acc s => ∃ fs : List Bool, acc = fs.map D.bl ∧ doOk (rs.take i) fs ∧ Dice n (k + 1 + i) s ∧ Near n s2 s) ⟨[], rfl, trivial, by simpa using D1, .refl⟩ fun i d acc s hI hd => by
    obtain ⟨fs, rfl, hf, hD, hN⟩ := hI
    rw [List.getElem?_map] at hd
    cases hri : rs[i]? with
    | none => rw [hri] at hd; cases hd
    | some r =>
      rw [hri] at hd
      cases hd
      have hil : i < rs.length := (List.getElem?_eq_some_iff.mp hri).1
      have et : rs.take (i + 1) = rs.take i ++ [r] := by rw [List.take_add_one, hri]; rfl
      by_cases e : r.f = true
      · refine ⟨_, asgT_name _ _ _, .inl ⟨.bl true, s, s, rfl, by simp [rw2, e], by simp, fs ++ [true], by simp, ?_, hD.mono (by omega), hN⟩⟩
        rw [et]
        exact doOk_snoc (fun _ => rfl) hf
      · obtain ⟨z, s', hz, _, _, hD', hS'⟩ := draw_ok (s := 6) hD (by omega) (by omega) (by omega)
        refine ⟨_, asgT_name _ _ _, .inl ⟨.bl (decide (z < v)), s, s', rfl, by simp [rw2, e, hz], by simp, fs ++ [decide (z < v)], by simp, ?_, hD'.mono (by omega), hN.trans hS'.near⟩⟩
        rw [et]
        exact doOk_snoc (fun q => absurd q e) hf
  have hd : doOk rs fs := by simpa using hd
  have D2 : Dice n (k + 1 + rs.length) s := by simpa using D2
  obtain ⟨s4, h4, D4, S4⟩ := gc_near (d := .tup (fs.map D.bl)) D2 h.lt (N1.trans N2) (by simp only [closed, bl_closed])
  exact ⟨fs, s4, by simp [h4], hd, D4, S4⟩
theorem zipD_do : ∀ {rs : List Rw} {fs : List Bool} {d : D}, doOk rs fs → d ∈ zipD (fs.map D.bl) (rs.map rwD) → ∃ f r, d = .tup [.bl f, rwD r] ∧ (r.f = true → f = true)
  | [], [], d, _, h => by simp [zipD] at h
  | r :: rs, f :: fs, d, hd, h => by
    simp only [List.map_cons, zipD, List.mem_cons] at h
    rcases h with rfl | h
    · exact ⟨f, r, rfl, hd.1⟩
    · exact zipD_do hd.2 h
theorem zipD_lenD : ∀ {rs : List Rw} {fs : List Bool}, doOk rs fs → (zipD (fs.map D.bl) (rs.map rwD)).length = rs.length
  | [], [], _ => rfl
  | r :: rs, f :: fs, h => by simp [zipD, zipD_lenD h.2]
theorem zipD_getB : ∀ {rs : List Rw} {fs : List Bool} {i : Nat} {d : D}, doOk rs fs → (zipD (fs.map D.bl) (rs.map rwD))[i]? = some d → ∃ f r, d = .tup [.bl f, rwD r] ∧ rs[i]? = some r ∧ fs[i]? = some f
  | [], [], i, d, _, h => by simp [zipD] at h
  | r :: rs, f :: fs, i, d, hd, h => by
    simp only [List.map_cons, zipD] at h
    cases i with
    | zero => simp at h; exact ⟨f, r, h.symm, rfl, rfl⟩
    | succ i =>
      rw [List.getElem?_cons_succ] at h
      obtain ⟨f', r', e, h1, h2⟩ := zipD_getB hd.2 h
      exact ⟨f', r', e, by simpa using h1, by simpa using h2⟩
theorem check_doing_ok {fs : List Bool} (h : st[p]? = some (logO N rs)) (hM : rs.length ≤ 1000) (hd : doOk rs fs) : m_check_doing [.ref p, .tup (fs.map D.bl)] st = .ok .non st := by
  have hl := doOk_len hd
  have zM : rs.length ≤ sizeLine := szl (by omega)
  have e : m_is_doing [.ref p, .tup (fs.map D.bl)] st = .ok (.bl true) st := by
    simp [m_is_doing_eq, log_at h, lkR, hl, okIf_pos zM]
    generalize hq : compL _ _ _ _ _ _ _ = r
    have := compL_mapE hq (by simp) (fun d => true) (fun d => .bl true) fun d hd' => by
      obtain ⟨f, _, rfl⟩ := List.mem_map.mp hd'
      exact ⟨_, asgT_name _ _ _, rfl, fun _ => by simp [is_flag_ok]⟩
    subst this
    rw [map_true]
    simp [-List.map_map, allG_true, zipD_lenD hd, okIf_pos zM, log_at h, lkR]
    generalize hq : compL _ _ _ _ _ _ _ = r
    have := compL_mapE hq (by simp) (fun d => true) (fun d => .bl true) fun d hd' => by
      obtain ⟨f, r, rfl, hfr⟩ := zipD_do hd hd'
      refine ⟨_, rfl, rfl, fun _ => ?_⟩
      cases f with
      | true => simp
      | false =>
        have : r.f = false := by
          cases q : r.f with
          | true => exact absurd (hfr q) (by simp)
          | false => rfl
        simp [rw2, this]
    subst this
    rw [map_true]
    simp [allG_true]
  simp [m_check_doing_eq, e]
/-! ### all sheets of a doing -/
def ledS (N : Nat) (rs : List Rw) (fs : List Bool) : Nat → List Int
  | 0 => (List.range N).map fun (i : Nat) => (i : Int)
  | i + 1 => match rs[i]?, fs[i]? with
    | some r, some f => if f then cpL (ledS N rs fs i) r else ledS N rs fs i
    | _, _ => ledS N rs fs i
theorem ledS_suc {fs : List Bool} {i : Nat} {r : Rw} {f : Bool} (hr : rs[i]? = some r) (hf : fs[i]? = some f) : ledS N rs fs (i + 1) = if f then cpL (ledS N rs fs i) r else ledS N rs fs i := by
  rw [ledS, hr, hf]
theorem begun_row (N : Nat) : RowS N ((List.range N).map fun (i : Nat) => (i : Int)) := by
  refine ⟨by simp, ris_of ?_ fun x hx => ?_⟩
  · rw [List.pairwise_map]
    exact (List.pairwise_lt_range).imp fun h => by omega
  · obtain ⟨i, hi, rfl⟩ := List.mem_map.mp hx
    have := List.mem_range.mp hi
    omega
theorem ledS_row {fs : List Bool} (h : ∀ r ∈ rs, RwOk N r) : ∀ i, RowS N (ledS N rs fs i)
  | 0 => begun_row N
  | i + 1 => by
    have ih := ledS_row (fs := fs) h i
    unfold ledS
    split
    · rename_i r f hr hf
      split
      · exact cpL_ok ih (h r (List.mem_of_getElem? hr))
      · exact ih
    · exact ih
def ledD (N : Nat) (rs : List Rw) (fs : List Bool) (i : Nat) : D := .tup ((ledS N rs fs i).map D.int)
def ledL (N : Nat) (rs : List Rw) (fs : List Bool) (m : Nat) : List D := (List.range m).map (ledD N rs fs)
theorem ledL_suc {fs : List Bool} (m : Nat) : ledL N rs fs (m + 1) = ledL N rs fs m ++ [ledD N rs fs m] := by
  unfold ledL
  rw [List.range_succ, List.map_append]
  rfl
theorem ledL_closed {fs : List Bool} (j : Nat) : ∀ m, closeds j (ledL N rs fs m) = true := by
  have app : ∀ xs ys : List D, closeds j (xs ++ ys) = (closeds j xs && closeds j ys) := by
    intro xs ys
    induction xs with
    | nil => simp [closeds]
    | cons x xs ih => simp [closeds, ih, Bool.and_assoc]
  intro m
  induction m with
  | zero => rfl
  | succ m ih => rw [ledL_suc, app, ih]; simp [closeds, ledD, closed, closeds_ints]
theorem begun_ok (hN : N ≤ 12) : m_begun [.int N] st = .ok (ledD N rs [] 0) st := by
  have hr : rgOk 0 (N : Int) := by
    unfold rgOk
    have h2 : (2 : Int) ^ 62 = 4611686018427387904 := by decide
    rw [h2]
    omega
  rw [m_begun_eq]
  simp [okIf_pos hr, ledD, ledS, rangeD]
theorem appendG_ref {m : Nat} {xs : List D} {d : D} (h : st[m]? = some (.lst xs)) (hl : xs.length < sizeLine) : appendG (.ref m) [d] st = .ok .non (st.set m (.lst (xs ++ [d]))) := by
  unfold appendG
  simp only [h]
  rw [if_pos hl]
theorem led_ok {fs : List Bool} (h : st[p]? = some (logO N rs)) (hN : N ≤ 12) (hM : rs.length ≤ 1000) (hrs : ∀ r ∈ rs, RwOk N r) (hd : doOk rs fs) :
    m_led [.ref p, .tup (fs.map D.bl)] st = .ok (.ref st.length) (st ++ [.lst (ledL N rs fs (rs.length + 1))]) := by
  have z1 : 1 ≤ sizeLine := szl (by omega)
  have hb : m_begun [.int N] st = .ok (ledD N rs fs 0) st := begun_ok (rs := rs) hN
  have hg : gcH st (.ok (ledD N rs fs 0) st) = .ok (ledD N rs fs 0) st := gcR_same (by simp [ledD, closed, closeds_ints])
  have hp : p < st.length := (List.getElem?_eq_some_iff.mp h).1
  have hpa : ∀ o : AO, (st ++ [o])[p]? = some (.ins "Log" [("offices", .int N), ("rows", .tup (rs.map rwD))]) := fun o => by rw [List.getElem?_append_left hp]; exact h
  rw [m_led_eq]
  simp [log_at h, lkO, lkR, hb, hg, okIf_pos z1, hpa]
  generalize hq : loopF _ _ _ _ _ _ = r
  obtain ⟨e, s, rfl, o3, o4, rfl, rfl⟩ := loopF_next hq (fun i env s => ∃ o3 o4, env = [some (.ref p), some (.tup (fs.map D.bl)), some (.ref st.length), o3, o4] ∧ s = st ++ [.lst (ledL N rs fs (i + 1))]) ⟨none, none, rfl, rfl⟩ fun i d env s hI hd' => by
    obtain ⟨o3, o4, rfl, rfl⟩ := hI
    obtain ⟨f, r, rfl, hr, hf⟩ := zipD_getB hd hd'
    have hi : i < rs.length := (List.getElem?_eq_some_iff.mp hr).1
    have zl : (ledL N rs fs (i + 1)).length < sizeLine := by
      have q : (ledL N rs fs (i + 1)).length = i + 1 := by simp [ledL]
      have q2 : i + 1 + 1 ≤ sizeLine := szl (by omega)
      omega
    have gl : getD (.ref st.length) (.int (-1)) (st ++ [.lst (ledL N rs fs (i + 1))]) = .ok (ledD N rs fs i) (st ++ [.lst (ledL N rs fs (i + 1))]) := by
      rw [getD_ref, seqOf_ref]
      simp [ledL_suc, atI_last]
    have hc : m_copied [ledD N rs fs i, rwD r] (st ++ [.lst (ledL N rs fs (i + 1))]) = .ok (.tup ((cpL (ledS N rs fs i) r).map D.int)) (st ++ [.lst (ledL N rs fs (i + 1))]) :=
      copied_ok hN (ledS_row hrs i) (hrs r (List.mem_of_getElem? hr))
    refine ⟨_, rfl, [some (.ref p), some (.tup (fs.map D.bl)), some (.ref st.length), some (.bl f), some (rwD r)], st ++ [.lst (ledL N rs fs (i + 1 + 1))], .inl ?_, by simp, _, _, rfl, rfl⟩
    have es := ledS_suc (N := N) hr hf
    have e2 : ledL N rs fs (i + 1 + 1) = ledL N rs fs (i + 1) ++ [ledD N rs fs (i + 1)] := ledL_suc (i + 1)
    rw [e2]
    have ga : ∀ d, appendG (.ref st.length) [d] (st ++ [.lst (ledL N rs fs (i + 1))]) = .ok .non (st ++ [.lst (ledL N rs fs (i + 1) ++ [d])]) := fun d => by
      rw [appendG_ref (m := st.length) (by simp) zl]
      simp
    have gh : gcH (st ++ [.lst (ledL N rs fs (i + 1))]) (.ok (.tup ((cpL (ledS N rs fs i) r).map D.int)) (st ++ [.lst (ledL N rs fs (i + 1))])) = .ok (.tup ((cpL (ledS N rs fs i) r).map D.int)) (st ++ [.lst (ledL N rs fs (i + 1))]) := gcR_ints _
    have ed : ledD N rs fs (i + 1) = .tup ((ledS N rs fs (i + 1)).map D.int) := rfl
    rw [ed, es]
    cases f with
    | true => simp [gl, hc, gh, ga]
    | false => simp [gl, ga]; rfl
  simp [zipD_lenD hd]
theorem all_sheets_ok {fs : List Bool} {fr : LF} {env : AEnv} (hfr : fr env st = .ok [.ref p, .tup (fs.map D.bl)] st) (h : st[p]? = some (logO N rs)) (hN : N ≤ 12) (hM : rs.length ≤ 1000) (hrs : ∀ r ∈ rs, RwOk N r) (hd : doOk rs fs) :
    lDrop (eCall m_all_sheets fr) env st = .ok (ledL N rs fs (rs.length + 1)) st := by
  have hl : lDrop (eCall m_led (lCons (eVar 0) (lCons (eVar 1) lNil))) [some (.ref p), some (.tup (fs.map D.bl))] st = .ok (ledL N rs fs (rs.length + 1)) st :=
    lDrop_call (as := [.ref p, .tup (fs.map D.bl)]) (X := [.lst (ledL N rs fs (rs.length + 1))]) (by simp) (led_ok h hN hM hrs hd) (Nat.le_refl _) (by simp) (ledL_closed _ _)
  have e : m_all_sheets [.ref p, .tup (fs.map D.bl)] st = .ok (.ref st.length) (st ++ [.lst (ledL N rs fs (rs.length + 1))]) := by
    simp [m_all_sheets_eq, check_doing_ok h hM hd, hl]
  exact lDrop_call (X := [.lst (ledL N rs fs (rs.length + 1))]) hfr e (Nat.le_refl _) (by simp) (ledL_closed _ _)
end TK

set_option Elab.async false
set_option linter.all false
set_option maxRecDepth 100000
set_option maxHeartbeats 4000000
namespace TK
open PySem PySem.Spec
open PyProof.Rows hiding St
open L2
/-! # sameness of lists; places picked -/
variable {st : Store}
theorem ints_plain (k : Nat) (xs : List Int) (h : xs.length ≤ 1000) : plainT (k + 1) (.tup (xs.map D.int)) := ⟨by simpa using h, fun d hd => by obtain ⟨i, _, rfl⟩ := List.mem_map.mp hd; cases k <;> trivial⟩
theorem rangeD_get' {n i : Nat} {d : D} (h : (rangeD 0 n)[i]? = some d) : d = .int (i : Int) ∧ i < n := by
  rw [rangeD_get] at h
  split at h
  · rename_i hi
    cases h
    exact ⟨by rw [Int.zero_add], hi⟩
  · cases h
/-- the places below n with a property -/
def placesS (p : Nat → Bool) (n : Nat) : List Int := ((List.range n).filter p).map fun (i : Nat) => (i : Int)
theorem placesS_len (p : Nat → Bool) (n : Nat) : (placesS p n).length ≤ n := by
  unfold placesS
  rw [List.length_map]
  exact Nat.le_trans (List.length_filter_le _ _) (by simp)
theorem places_range (p : Nat → Bool) (q : D → Bool) (n : Nat) (h : ∀ i, i < n → q (.int (i : Int)) = p i) : (rangeD 0 n).filter q = (placesS p n).map D.int := by
  unfold rangeD placesS
  rw [List.filter_map, List.map_map]
  have e : (List.range n).filter (q ∘ fun (i : Nat) => D.int (0 + (i : Int))) = (List.range n).filter p := List.filter_congr fun i hi => by
    have := h i (List.mem_range.mp hi)
    simpa using this
  rw [e]
  refine List.map_congr_left fun i _ => ?_
  simp
theorem enum_range : ∀ (l : List D) (k : Nat), (enumFrom k l).length = l.length
  | [], _ => rfl
  | x :: l, k => by simp [enumFrom, enum_range l]
theorem enum_places (p : Nat → Bool) (q : D → Bool) (f : D → D) : ∀ (l : List D) (k : Nat), (∀ i x, l[i]? = some x → q (.tup [.int ((k + i : Nat) : Int), x]) = p (k + i) ∧ f (.tup [.int ((k + i : Nat) : Int), x]) = .int ((k + i : Nat) : Int)) →
    ((enumFrom k l).filter q).map f = (((List.range l.length).filter fun i => p (k + i)).map fun (i : Nat) => D.int ((k + i : Nat) : Int))
  | [], k, _ => rfl
  | x :: l, k, h => by
    have h0 := h 0 x rfl
    rw [Nat.add_zero] at h0
    have ih := enum_places p q f l (k + 1) fun i y hy => by
      have := h (i + 1) y (by simpa using hy)
      have e : k + 1 + i = k + (i + 1) := by omega
      rw [e]
      exact this
    have e2 : (fun i => p (k + 1 + i)) = (fun i => p (k + i)) ∘ Nat.succ := by
      funext i
      show p (k + 1 + i) = p (k + (i + 1))
      congr 1
      omega
    have e3 : (fun (i : Nat) => D.int ((k + 1 + i : Nat) : Int)) = (fun (i : Nat) => D.int ((k + i : Nat) : Int)) ∘ Nat.succ := by
      funext i
      show D.int ((k + 1 + i : Nat) : Int) = D.int ((k + (i + 1) : Nat) : Int)
      congr 2
      omega
    rw [enumFrom, List.length_cons, List.range_succ_eq_map, List.filter_cons, List.filter_cons, List.filter_map, h0.1]
    rw [e2, e3] at ih
    by_cases c : p k = true
    · rw [if_pos c, if_pos (by exact c), List.map_cons, List.map_cons, ih, List.map_map, h0.2, Nat.add_zero]
    · rw [if_neg c, if_neg (by exact c), ih, List.map_map]
end TK

set_option Elab.async false
set_option linter.all false
set_option maxRecDepth 100000
set_option maxHeartbeats 4000000
namespace TK
open PySem PySem.Spec
open PyProof.Rows hiding St
open L2
/-! # sheets led by the law, sheets of a doing, is_doing of any flags -/
variable {st : Store} {n p N : Nat} {k : Int} {rs : List Rw} {fs : List Bool}
theorem set_mid (st x : Store) (a b o : AO) : (st ++ (a :: x) ++ [o]).set st.length b = st ++ (b :: (x ++ [o])) := by
  rw [List.append_assoc, List.set_append_right _ _ (Nat.le_refl _), Nat.sub_self]
  rfl
theorem ledD_plain (hN : N ≤ 12) (hrs : ∀ r ∈ rs, RwOk N r) (i : Nat) (k : Nat) : plainT (k + 1) (ledD N rs fs i) := ints_plain k _ (by rw [(ledS_row hrs i).1]; omega)
theorem ledL_plain (hN : N ≤ 12) (hrs : ∀ r ∈ rs, RwOk N r) (m : Nat) : ∀ d ∈ ledL N rs fs m, plainT 58 d := fun d hd => by
  obtain ⟨i, _, rfl⟩ := List.mem_map.mp hd
  exact ledD_plain hN hrs i 57
theorem ledL_at {m i : Nat} (h : i < m) : (ledL N rs fs m)[i]? = some (ledD N rs fs i) := by
  unfold ledL
  rw [List.getElem?_map, List.getElem?_range h]; rfl
theorem law_led_ok (hN : N ≤ 12) (hM : rs.length ≤ 1000) (hrs : ∀ r ∈ rs, RwOk N r) (hl : fs.length = rs.length) :
    ∃ x, m__law_led [.int N, .tup (rs.map rwD), .tup (fs.map D.bl)] st = .ok (.ref st.length) (st ++ (.lst (ledL N rs fs (rs.length + 1)) :: x)) := by
  have z1 : 1 ≤ sizeLine := szl (by omega)
  have hr0 : rgOk 0 (N : Int) := by
    unfold rgOk
    have h2 : (2 : Int) ^ 62 = 4611686018427387904 := by decide
    rw [h2]
    omega
  have rg : ∀ s, rngR1 (rs.length : Int) s = .ok (rangeD 0 rs.length, []) s := fun s => rngR_nat (by omega)
  have e0 : D.tup (rangeD 0 N) = ledD N rs fs 0 := by
    unfold ledD ledS rangeD
    rw [List.map_map]
    congr 1
    refine List.map_congr_left fun i _ => ?_
    simp
  rw [m__law_led_eq]
  simp [okIf_pos hr0, okIf_pos z1, rg, e0]
  generalize hq : loopF _ _ _ _ _ _ = r
  obtain ⟨e, s, rfl, x, o4, o5, rfl, rfl⟩ := loopF_next hq (fun i env s => ∃ x o4 o5, env = [some (.int N), some (.tup (rs.map rwD)), some (.tup (fs.map D.bl)), some (.ref st.length), o4, o5] ∧ s = st ++ (.lst (ledL N rs fs (i + 1)) :: x)) ⟨[], none, none, rfl, rfl⟩ fun i d env s hI hd => by
    obtain ⟨x, o4, o5, rfl, rfl⟩ := hI
    obtain ⟨rfl, hi⟩ := rangeD_get' hd
    obtain ⟨r, hr⟩ : ∃ r, rs[i]? = some r := ⟨rs[i], List.getElem?_eq_getElem hi⟩
    obtain ⟨f, hf⟩ : ∃ f, fs[i]? = some f := ⟨fs[i]'(by omega), List.getElem?_eq_getElem (by omega)⟩
    obtain ⟨h1, h2, h3⟩ := hrs r (List.mem_of_getElem? hr)
    have hrow := (ledS_row (N := N) (fs := fs) hrs i).1
    have es := ledS_suc (N := N) hr hf
    have e2 : ledL N rs fs (i + 1 + 1) = ledL N rs fs (i + 1) ++ [ledD N rs fs (i + 1)] := ledL_suc (i + 1)
    have zl : (ledL N rs fs (i + 1)).length < sizeLine := by
      have q : (ledL N rs fs (i + 1)).length = i + 1 := by simp [ledL]
      have q2 : i + 1 + 1 ≤ sizeLine := szl (by omega)
      omega
    have hS : (st ++ (AO.lst (ledL N rs fs (i + 1)) :: x))[st.length]? = some (.lst (ledL N rs fs (i + 1))) := by simp
    have gl : getD (.ref st.length) (.int (-1)) (st ++ (AO.lst (ledL N rs fs (i + 1)) :: x)) = .ok (ledD N rs fs i) (st ++ (AO.lst (ledL N rs fs (i + 1)) :: x)) := by
      rw [getD_ref, seqOf_ref, hS]
      simp [ledL_suc, atI_last]
    have g2 : ∀ s, getD (.tup (fs.map D.bl)) (.int i) s = .ok (.bl f) s := fun s => getD_at (by rw [List.getElem?_map, hf]; rfl)
    have g1 : ∀ s, getD (.tup (rs.map rwD)) (.int i) s = .ok (rwD r) s := fun s => row_at hr
    have ga : ∀ o d, appendG (.ref st.length) [d] (st ++ (AO.lst (ledL N rs fs (i + 1)) :: x) ++ [o]) = .ok .non (st ++ (.lst (ledL N rs fs (i + 1) ++ [d]) :: (x ++ [o]))) := fun o d => by
      rw [appendG_ref (m := st.length) (xs := ledL N rs fs (i + 1)) (by rw [List.getElem?_append_left (by simp)]; exact hS) zl, set_mid]
    have hSo : ∀ o, (st ++ (AO.lst (ledL N rs fs (i + 1)) :: x) ++ [o])[st.length]? = some (.lst (ledL N rs fs (i + 1))) := fun o => by rw [List.getElem?_append_left (by simp)]; exact hS
    refine ⟨_, asgT_name _ _ _, ?_⟩
    have ed : ledD N rs fs (i + 1) = .tup ((ledS N rs fs (i + 1)).map D.int) := rfl
    have ed0 : ledD N rs fs i = .tup ((ledS N rs fs i).map D.int) := rfl
    rw [e2, ed, es]
    rw [ed0] at gl
    clear e2 ed es ed0 hq e0 zl
    revert gl
    unfold cpL
    generalize ledS N rs fs i = xs at hrow
    intro gl
    have hx : ixN xs.length (r.x : Int) = some r.x := by
      unfold ixN
      rw [if_pos (by omega), if_pos (by omega)]
      simp
    have gy : ∀ s : Store, getD (.ref s.length) (.int r.y) (s ++ [.lst (xs.map D.int)]) = .ok (.int (xs.getD r.y 0)) (s ++ [.lst (xs.map D.int)]) := fun s =>
      getD_r (xs := xs.map D.int) (k := r.y) (by simp) rfl (by rw [List.getElem?_map, List.getElem?_eq_getElem (by omega), List.getD_eq_getElem?_getD, List.getElem?_eq_getElem (by omega)]; rfl)
    revert gy
    generalize xs.getD r.y 0 = v
    intro gy
    generalize hs' : st ++ (AO.lst (ledL N rs fs (i + 1)) :: x) = s at gl hS ga hSo
    cases f with
    | true =>
      refine ⟨[some (.int N), some (.tup (rs.map rwD)), some (.tup (fs.map D.bl)), some (.ref st.length), some (.int i), some (.ref s.length)], st ++ (.lst (ledL N rs fs (i + 1) ++ [.tup ((xs.set r.x v).map D.int)]) :: (x ++ [.lst ((xs.set r.x v).map D.int)])), .inl ?_, by simp, ?_⟩
      · simp [gl, g1, g2, rw0, rw1, gy, hx, hS, hSo, ga]
      · exact ⟨_, _, _, rfl, rfl⟩
    | false =>
      refine ⟨[some (.int N), some (.tup (rs.map rwD)), some (.tup (fs.map D.bl)), some (.ref st.length), some (.int i), some (.ref s.length)], st ++ (.lst (ledL N rs fs (i + 1) ++ [.tup (xs.map D.int)]) :: (x ++ [.lst (xs.map D.int)])), .inl ?_, by simp, ?_⟩
      · simp [gl, g1, g2, hS, hSo, ga]
      · exact ⟨_, _, _, rfl, rfl⟩
  exact ⟨x, by simp⟩
theorem law_led_drop {fr : LF} {env : AEnv} (hfr : fr env st = .ok [.int N, .tup (rs.map rwD), .tup (fs.map D.bl)] st) (hN : N ≤ 12) (hM : rs.length ≤ 1000) (hrs : ∀ r ∈ rs, RwOk N r) (hl : fs.length = rs.length) :
    lDrop (eCall m__law_led fr) env st = .ok (ledL N rs fs (rs.length + 1)) st := by
  obtain ⟨x, hx⟩ := law_led_ok (st := st) hN hM hrs hl
  exact lDrop_call hfr hx (Nat.le_refl _) (by simp) (ledL_closed _ _)
theorem boolsOf_bls : ∀ l : List Bool, boolsOf (l.map D.bl) = some l
  | [] => rfl
  | _ :: l => by simp [boolsOf, boolsOf_bls l]
theorem allG_bls (l : List Bool) (st : Store) : allG (l.map D.bl) st = .ok (.bl (l.all id)) st := by
  unfold allG
  rw [boolsOf_bls]
/-- whether flags are a doing -/
def doB : List Rw → List Bool → Bool
  | r :: rs, f :: fs => (f || !r.f) && doB rs fs
  | _, _ => true
theorem doB_iff : ∀ {rs : List Rw} {fs : List Bool}, fs.length = rs.length → (doB rs fs = true ↔ doOk rs fs)
  | [], [], _ => by simp [doB, doOk]
  | r :: rs, f :: fs, h => by
    have ih := doB_iff (rs := rs) (fs := fs) (by simpa using h)
    rw [doB, doOk, Bool.and_eq_true, ih]
    cases f <;> cases q : r.f <;> simp
  | [], _ :: _, h => by simp at h
  | _ :: _, [], h => by simp at h
theorem zip_do : ∀ {rs : List Rw} {fs : List Bool}, fs.length = rs.length → ∃ bs : List Bool, bs.all id = doB rs fs ∧ zipD (fs.map D.bl) (rs.map rwD) = (List.range rs.length).map (fun i => .tup [.bl (fs.getD i false), rwD (rs.getD i ⟨0, 0, false⟩)]) ∧ bs = (List.range rs.length).map (fun i => fs.getD i false || !(rs.getD i ⟨0, 0, false⟩).f)
  | [], [], _ => ⟨[], rfl, rfl, rfl⟩
  | r :: rs, f :: fs, h => by
    obtain ⟨bs, h1, h2, h3⟩ := zip_do (rs := rs) (fs := fs) (by simpa using h)
    refine ⟨(f || !r.f) :: bs, by rw [List.all_cons, h1]; rfl, ?_, ?_⟩
    · rw [List.map_cons, List.map_cons, zipD, h2, List.length_cons, List.range_succ_eq_map, List.map_cons, List.map_map]
      rfl
    · rw [h3, List.length_cons, List.range_succ_eq_map, List.map_cons, List.map_map]
      rfl
  | [], _ :: _, h => by simp at h
  | _ :: _, [], h => by simp at h
def doCell (d : D) : D := match d with
  | .tup [.bl f, .tup [_, _, .bl g]] => .bl (f || !g)
  | d => d
theorem is_doing_b (h : st[p]? = some (logO N rs)) (hM : rs.length ≤ 1000) (hl : fs.length = rs.length) : m_is_doing [.ref p, .tup (fs.map D.bl)] st = .ok (.bl (doB rs fs)) st := by
  have zM : rs.length ≤ sizeLine := szl (by omega)
  obtain ⟨bs, h1, h2, h3⟩ := zip_do hl
  simp [m_is_doing_eq, log_at h, lkR, hl, okIf_pos zM]
  generalize hq : compL _ _ _ _ _ _ _ = r
  have := compL_mapE hq (by simp) (fun d => true) (fun d => .bl true) fun d hd' => by
    obtain ⟨f, _, rfl⟩ := List.mem_map.mp hd'
    exact ⟨_, asgT_name _ _ _, rfl, fun _ => by simp [is_flag_ok]⟩
  subst this
  rw [map_true]
  simp [-List.map_map, -List.getD_eq_getElem?_getD, allG_true, h2, okIf_pos zM, log_at h, lkR]
  generalize hq : compL _ _ _ _ _ _ _ = r
  have := compL_mapE hq (by simp) (fun d => true) doCell fun d hd' => by
    obtain ⟨i, _, e⟩ := List.mem_map.mp hd'
    have e : D.tup [.bl (fs.getD i false), rwD (rs.getD i ⟨0, 0, false⟩)] = d := e
    revert e
    generalize fs.getD i false = f
    generalize rs.getD i _ = r
    intro e
    subst e
    refine ⟨_, rfl, rfl, fun _ => ?_⟩
    cases f with
    | true => simp [rwD, doCell]
    | false => simp [rw2]; simp [doCell, rwD]
  subst this
  rw [map_true, List.map_map]
  have e : (List.range rs.length).map (doCell ∘ fun (i : Nat) => D.tup [.bl (fs.getD i false), rwD (rs.getD i ⟨0, 0, false⟩)]) = bs.map D.bl := by
    rw [h3, List.map_map]
    rfl
  rw [e]
  simp [allG_bls, h1]
end TK

set_option Elab.async false
set_option linter.all false
set_option maxRecDepth 100000
set_option maxHeartbeats 4000000
namespace TK
open PySem PySem.Spec
open PyProof.Rows hiding St
open L2
/-! # plain data equal to itself; logs however long -/
variable {st : Store} {n p N : Nat} {rs : List Rw}
theorem plain_py : ∀ (k : Nat) (d : D), plainT k d → ∃ p, (∀ f, toPw f d = some p) ∧ p.canLay0 = true ∧ p.depth ≤ k ∧ PyData.eqv p p = true := by
  intro k
  induction k with
  | zero =>
    intro d h
    cases d with
    | bl b => exact ⟨.bool b, fun _ => rfl, rfl, Nat.le_refl _, by cases b <;> rfl⟩
    | int i => exact ⟨.int i, fun _ => rfl, rfl, Nat.le_refl _, by simp [PyData.eqv]⟩
    | _ => exact h.elim
  | succ k ih =>
    intro d h
    cases d with
    | bl b => exact ⟨.bool b, fun _ => rfl, rfl, Nat.zero_le _, by cases b <;> rfl⟩
    | int i => exact ⟨.int i, fun _ => rfl, rfl, Nat.zero_le _, by simp [PyData.eqv]⟩
    | tup ds =>
      replace h : ∀ d ∈ ds, plainT k d := h.2
      have key : ∃ ps, (∀ f, toPws f ds = some ps) ∧ PyData.canLayAll0 ps = true ∧ PyData.depthAll ps ≤ k ∧ PyData.eqvAll ps ps = true := by
        induction ds with
        | nil => exact ⟨[], fun _ => rfl, rfl, Nat.zero_le _, rfl⟩
        | cons d ds ihd =>
          obtain ⟨p, h1, h2, h3, h4⟩ := ih d (h d (by simp))
          obtain ⟨ps, g1, g2, g3, g4⟩ := ihd fun d hd => h d (List.mem_cons_of_mem _ hd)
          refine ⟨p :: ps, fun f => by simp [toPws, h1, g1], ?_, ?_, ?_⟩
          · show (p.canLay0 && PyData.canLayAll0 ps) = true
            rw [h2, g2]; rfl
          · show max p.depth (PyData.depthAll ps) ≤ k
            omega
          · show (PyData.eqv p p && PyData.eqvAll ps ps) = true
            rw [h4, g4]; rfl
      obtain ⟨ps, g1, g2, g3, g4⟩ := key
      refine ⟨.tuple ps, fun f => by simp [toPw, g1], g2, ?_, g4⟩
      show PyData.depthAll ps + 1 ≤ k + 1
      omega
    | _ => exact h.elim
theorem eqP_refl {d : D} {k : Nat} (h : plainT k d) (hk : k ≤ 60) : eqP d d st = some true := by
  obtain ⟨p, h1, h2, h3, h4⟩ := plain_py k d h
  unfold eqP
  rw [show toP st 50 d = some p from h1 _]
  have hs : SeqAt.shaped p = true := by
    unfold SeqAt.shaped
    rw [h2]
    have : p.depth ≤ 64 := by omega
    simp [this]
  simp only [hs, and_self, if_true]
  rw [h4]
theorem eqD_refl {d : D} {k : Nat} (h : plainT k d) (hk : k ≤ 60) : eqD d d st = .ok (.bl true) st := by
  unfold eqD
  rw [eqP_refl h hk]
theorem neD_refl {d : D} {k : Nat} (h : plainT k d) (hk : k ≤ 60) : neD d d st = .ok (.bl false) st := by
  unfold neD
  rw [eqP_refl h hk]
  rfl
theorem gcR_newO {o : AO} (x : Store) (h : closedO st.length o = true) (k : Nat) (hk : (st ++ x)[k]? = some o) (hk2 : st.length ≤ k) : gcH st (.ok (.ref k) (st ++ x)) = .ok (.ref st.length) (st ++ [o]) := by
  have hc : closed st.length (.ref k) = false := by simp [closed]; omega
  unfold gcH
  rw [hid_eq]
  unfold gcR
  simp [trim_app, hc, hk, h]
theorem rw_closed (j : Nat) : ∀ rs : List Rw, closeds j (rs.map rwD) = true
  | [] => rfl
  | r :: rs => by simp [closeds, closed, rwD, rw_closed j rs]
theorem log_closed (j : Nat) : closedO j (logO N rs) = true := by
  simp [logO, closedO, closedF, closed, rw_closed]
theorem raw_log_ok {d : D} (h1 : 1 ≤ N) (h12 : N ≤ 12) (hd : seqOf d (st ++ [logO N []]) = some (rs.map rwD)) : m_raw_log [.int N, d] st = .ok (.ref st.length) (st ++ [logO N rs]) := by
  have z0 : (0 : Nat) ≤ sizeLine := szl (by omega)
  have hmk := log_make (st := st) (N := N) (rs := []) (fr := lCons (eVar 0) (lCons (eTup lNil) lNil)) (env := [some (.int N), some d, none]) (by simp [okIf_pos z0]) h1 h12 (by simp) (by simp)
  have hne : ¬ (Str.ofString "offices") = (Str.ofString "rows") := by decide +kernel
  have hl : (st ++ [logO N []])[st.length]? = some (.ins "Log" [("offices", .int N), ("rows", .tup [])]) := by simp [logO]
  rw [m_raw_log_eq]
  simp [hmk, hd, hl, putFD, hne]
  rfl
theorem raw_log_gc {d : D} (h1 : 1 ≤ N) (h12 : N ≤ 12) (hd : seqOf d (st ++ [logO N []]) = some (rs.map rwD)) : gcH st (m_raw_log [.int N, d] st) = .ok (.ref st.length) (st ++ [logO N rs]) := by
  rw [raw_log_ok h1 h12 hd]
  exact gcR_newO _ (log_closed _) _ (by simp) (Nat.le_refl _)
theorem flat_rep (k : Nat) : ∀ rs : List Rw, (List.replicate k (rs.map rwD)).flatten = (List.replicate k rs).flatten.map rwD := fun rs => by
  induction k with
  | zero => rfl
  | succ k ih => rw [List.replicate_succ, List.replicate_succ, List.flatten_cons, List.flatten_cons, List.map_append, ih]
end TK

set_option Elab.async false
set_option linter.all false
set_option maxRecDepth 100000
set_option maxHeartbeats 4000000
namespace TK
open PySem PySem.Spec
open PyProof.Rows hiding St
open L2
/-! # logs changed, compared -/
variable {st : Store} {n p q N : Nat} {k : Int} {rs qs : List Rw}
@[simp] theorem eIsC_ap (c : Str) (fe : EF) (env : AEnv) (st : Store) : eIsC c fe env st = ((fe env st).bind fun d st1 => match d with
  | .ref n => (match st1[n]? with
    | some (.ins c1 _) => if c1 = c then .ok (.bl true) st1 else .bad
    | _ => .bad)
  | _ => .bad) := (Eq.refl _).trans rfl
theorem rows_plain (h : rs.length ≤ 1000) (k : Nat) : plainT (k + 2) (.tup (rs.map rwD)) := ⟨by simpa using h, fun d hd => by
  obtain ⟨r, _, rfl⟩ := List.mem_map.mp hd
  refine ⟨by simp, fun d hd => ?_⟩
  simp only [List.mem_cons, List.not_mem_nil, or_false] at hd
  rcases hd with rfl | rfl | rfl <;> cases k <;> trivial⟩
theorem log_eq_ok (h : st[p]? = some (logO N rs)) (h2 : st[q]? = some (logO N rs)) (hl : rs.length ≤ 1000) : m_Log__same [.ref p, .ref q] st = .ok (.bl true) st := by
  have e1 := eqD_refl (st := st) (rows_plain (rs := rs) hl 57) (by omega)
  rw [m_Log__same_eq]
  simp [log_at h, log_at h2, lkO, lkR, e1]
theorem eqI_log (h : st[p]? = some (logO N rs)) (h2 : st[q]? = some (logO N rs)) (hl : rs.length ≤ 1000) : eqI "Log" m_Log__same (.ref p) (.ref q) st = .ok (.bl true) st := by
  have g := gcR_bl (st := st) true
  unfold gcH at g
  rw [hid_eq] at g
  unfold eqI
  simp only [log_at h, log_at h2, and_self, if_true]
  rw [log_eq_ok h h2 hl, g]
  rfl
theorem without_ok {i : Nat} (h : st[p]? = some (logO N rs)) (hi : i < rs.length) (hN1 : 1 ≤ N) (hN : N ≤ 12) (hl : rs.length ≤ 10000) :
    gcH st (m_without [.ref p, .int i] st) = .ok (.ref st.length) (st ++ [logO N (rs.take i ++ rs.drop (i + 1))]) := by
  have a1 : (i : Int) ≤ (rs.length : Int) - 1 := by omega
  have hc : m_check_row [.ref p, .int i] st = .ok .non st := by
    simp [m_check_row_eq, log_at h, lkR, is_within_ok, a1]
  have c1 := cut_hi (rs.map rwD) i
  have c2 := cut_lo (rs.map rwD) (i + 1)
  have e1 : ((i + 1 : Nat) : Int) = (i : Int) + 1 := by omega
  rw [e1] at c2
  have zl : min i rs.length + (rs.length - (i + 1)) ≤ sizeLine := szl (by omega)
  have hr := raw_log_gc (st := st) (N := N) (rs := rs.take i ++ rs.drop (i + 1)) (d := .tup ((rs.map rwD).take i ++ (rs.map rwD).drop (i + 1))) hN1 hN (by rw [List.map_append, List.map_take, List.map_drop]; rfl)
  have e : m_without [.ref p, .int i] st = .ok (.ref st.length) (st ++ [logO N (rs.take i ++ rs.drop (i + 1))]) := by
    rw [m_without_eq]
    simp [hc, log_at h, lkO, lkR, c1, c2, okIf_pos zl] at hr ⊢
    simp [hr]
  rw [e]
  exact gcR_newO _ (log_closed _) _ (by simp) (Nat.le_refl _)
theorem with_row_ok {i : Nat} {r : Rw} (h : st[p]? = some (logO N rs)) (hi : i ≤ rs.length) (hr : RwOk N r) (hN1 : 1 ≤ N) (hN : N ≤ 12) (hl : rs.length ≤ 10000) :
    gcH st (m_with_row [.ref p, .int i, rwD r] st) = .ok (.ref st.length) (st ++ [logO N (rs.take i ++ r :: rs.drop i)]) := by
  have a1 : (i : Int) ≤ (rs.length : Int) := by omega
  have c1 := cut_hi (rs.map rwD) i
  have c2 := cut_lo (rs.map rwD) i
  have z1 : 1 ≤ sizeLine := szl (by omega)
  have z2 : min i rs.length + 1 ≤ sizeLine := szl (by omega)
  have z3 : min i rs.length + 1 + (rs.length - i) ≤ sizeLine := szl (by omega)
  have z4 : i + 1 ≤ sizeLine := szl (by omega)
  have z5 : i + 1 + (rs.length - i) ≤ sizeLine := szl (by omega)
  have hg := raw_log_gc (st := st) (N := N) (rs := rs.take i ++ r :: rs.drop i) (d := .tup ((rs.map rwD).take i ++ rwD r :: (rs.map rwD).drop i)) hN1 hN (by rw [List.map_append, List.map_cons, List.map_take, List.map_drop]; rfl)
  have e : m_with_row [.ref p, .int i, rwD r] st = .ok (.ref st.length) (st ++ [logO N (rs.take i ++ r :: rs.drop i)]) := by
    rw [m_with_row_eq]
    simp [log_at h, lkO, lkR, is_within_ok, hi, is_row_ok hr, c1, c2, okIf_pos z1, okIf_pos z2, okIf_pos z3, okIf_pos z4, okIf_pos z5, hg]
  rw [e]
  exact gcR_newO _ (log_closed _) _ (by simp) (Nat.le_refl _)
def looseR (r : Rw) : Rw := ⟨r.x, r.y, false⟩
theorem loose_rows (h : ∀ r ∈ rs, RwOk N r) : ∀ r ∈ rs.map looseR, RwOk N r := fun r hr => by
  obtain ⟨q, hq, rfl⟩ := List.mem_map.mp hr
  exact h q hq
def looF (d : D) : D := match d with
  | .tup [x, y, _] => .tup [x, y, .bl false]
  | d => d
theorem loo_map : (rs.map rwD).map looF = (rs.map looseR).map rwD := by
  rw [List.map_map, List.map_map]
  rfl
theorem led_loose (N : Nat) (rs : List Rw) (fs : List Bool) : ∀ i, ledS N (rs.map looseR) fs i = ledS N rs fs i
  | 0 => rfl
  | i + 1 => by
    have ih := led_loose N rs fs i
    unfold ledS
    rw [ih, List.getElem?_map]
    cases rs[i]? with
    | none => rfl
    | some r => cases fs[i]? with
      | none => rfl
      | some f => rfl
theorem do_loose : ∀ {rs : List Rw} {fs : List Bool}, doOk rs fs → doOk (rs.map looseR) fs
  | [], [], _ => trivial
  | r :: rs, f :: fs, h => ⟨fun z => (by cases z), do_loose h.2⟩
end TK

set_option Elab.async false
set_option linter.all false
set_option maxRecDepth 100000
set_option maxHeartbeats 4000000
namespace TK
open PySem PySem.Spec
open PyProof.Rows hiding St
open L2
/-! # archives -/
@[simp] theorem eMeth_ap (c x : Str) (m : List D → Store → R D) (fo : EF) (fr : LF) (env : AEnv) (st : Store) : eMeth c x m fo fr env st = ((fo env st).bind fun d st1 => (selfR c x d st1).bind fun d st1 => (fr env st1).bind fun ds st2 => gcH st2 (m (d :: ds) st2)) := by
  unfold eMeth gcH
  simp only [hid_eq]
theorem gc_cases {st st' : Store} {d : D} (h : closed st.length d = true) : gcH st (.ok d st') = .ok d st' ∨ (Trim st st' ∧ gcH st (.ok d st') = .ok d (st'.take st.length)) := by
  unfold gcH
  rw [hid_eq]
  unfold gcR
  by_cases t : Trim st st'
  · exact .inr ⟨t, by simp [t, h]⟩
  · exact .inl (by simp [t])
theorem gc_len {st st' : Store} {d : D} (h : closed st.length d = true) (hl : st'.length = st.length) : gcH st (.ok d st') = .ok d st' := by
  rcases gc_cases (st' := st') h with e | ⟨_, e⟩
  · exact e
  · rw [e, List.take_of_length_le (by omega)]
/-- a find: moment, office, edition -/
structure Fd where
  m : Nat
  o : Nat
  e : Nat
def fdD (f : Fd) : D := .tup [.int f.m, .int f.o, .int f.e]
def FdOk (N M : Nat) (f : Fd) : Prop := f.m ≤ M ∧ f.o < N ∧ f.e < N
def fdU (i : Nat) (f : Fd) : Fd := if i + 1 ≤ f.m then ⟨f.m + 1, f.o, f.e⟩ else f
def fdW (i : Nat) (f : Fd) : Fd := if i + 1 ≤ f.m then ⟨f.m - 1, f.o, f.e⟩ else f
abbrev Stt := List Rw × List Fd
structure SOk (N : Nat) (s : Stt) : Prop where
  r : ∀ r ∈ s.1, RwOk N r
  l : s.1.length ≤ 60
  f : ∀ f ∈ s.2, FdOk N s.1.length f
  k : s.2.length ≤ 40
inductive Deed where
  | put (i : Nat) (r : Rw) | strike (i : Nat) | sho (f : Fd) | doubt (i : Nat)
def deedD : Deed → D
  | .put i r => .tup [.str "put", .int i, rwD r]
  | .strike i => .tup [.str "strike", .int i]
  | .sho f => .tup [.str "show", fdD f]
  | .doubt i => .tup [.str "doubt", .int i]
def deedOk (N : Nat) (s : Stt) : Deed → Prop
  | .put i r => i ≤ s.1.length ∧ RwOk N r ∧ s.1.length < 60
  | .strike i => i < s.1.length
  | .sho f => FdOk N s.1.length f ∧ s.2.length < 40
  | .doubt i => i < s.2.length
def beh (s : Stt) : Deed → Stt
  | .put i r => (s.1.take i ++ r :: s.1.drop i, s.2.map (fdU i))
  | .strike i => (s.1.take i ++ s.1.drop (i + 1), s.2.map (fdW i))
  | .sho f => (s.1, s.2 ++ [f])
  | .doubt i => (s.1, s.2.take i ++ s.2.drop (i + 1))
theorem fdU_ok {N M i : Nat} {f : Fd} (h : FdOk N M f) : FdOk N (M + 1) (fdU i f) := by
  unfold fdU
  obtain ⟨h1, h2, h3⟩ := h
  split
  · exact ⟨by simp; omega, h2, h3⟩
  · exact ⟨by omega, h2, h3⟩
theorem fdW_ok {N M i : Nat} {f : Fd} (h : FdOk N M f) (hi : i < M) : FdOk N (M - 1) (fdW i f) := by
  unfold fdW
  obtain ⟨h1, h2, h3⟩ := h
  split
  · exact ⟨by simp; omega, h2, h3⟩
  · exact ⟨by omega, h2, h3⟩
theorem beh_ok {N : Nat} {s : Stt} {d : Deed} (h : SOk N s) (hd : deedOk N s d) : SOk N (beh s d) := by
  obtain ⟨h1, h2, h3, h4⟩ := h
  cases d with
  | put i r =>
    obtain ⟨q1, q2, q3⟩ := hd
    refine ⟨fun x hx => ?_, by simp [beh]; omega, fun x hx => ?_, by simpa [beh] using h4⟩
    · simp only [beh, List.mem_append, List.mem_cons] at hx
      rcases hx with hx | rfl | hx
      · exact h1 x (List.mem_of_mem_take hx)
      · exact q2
      · exact h1 x (List.mem_of_mem_drop hx)
    · simp only [beh, List.mem_map] at hx
      obtain ⟨f, hf, rfl⟩ := hx
      have : (beh s (.put i r)).1.length = s.1.length + 1 := by simp [beh]; omega
      rw [this]
      exact fdU_ok (h3 f hf)
  | strike i =>
    refine ⟨fun x hx => ?_, by simp [beh]; omega, fun x hx => ?_, by simpa [beh] using h4⟩
    · simp only [beh, List.mem_append] at hx
      rcases hx with hx | hx
      · exact h1 x (List.mem_of_mem_take hx)
      · exact h1 x (List.mem_of_mem_drop hx)
    · simp only [beh, List.mem_map] at hx
      obtain ⟨f, hf, rfl⟩ := hx
      have hd : i < s.1.length := hd
      have : (beh s (.strike i)).1.length = s.1.length - 1 := by simp [beh]; omega
      rw [this]
      exact fdW_ok (h3 f hf) hd
  | sho f =>
    obtain ⟨q1, q2⟩ := hd
    refine ⟨h1, h2, fun x hx => ?_, by simp [beh]; omega⟩
    simp only [beh, List.mem_append, List.mem_singleton] at hx
    rcases hx with hx | rfl
    · exact h3 x hx
    · exact q1
  | doubt i =>
    refine ⟨h1, h2, fun x hx => ?_, by simp [beh]; omega⟩
    simp only [beh, List.mem_append] at hx
    rcases hx with hx | hx
    · exact h3 x (List.mem_of_mem_take hx)
    · exact h3 x (List.mem_of_mem_drop hx)
/-! ### how an archive stands in the store -/
def arO (x : D) (b : Nat) : AO := .ins "Archive" [("pair", x), ("past", .ref b)]
def pairD (l : Nat) (fs : List Fd) : D := .tup [.ref l, .tup (fs.map fdD)]
def Pst (st : Store) (N : Nat) : List Stt → List D → Prop
  | [], [] => True
  | s :: S, p :: ps => (∃ l, p = pairD l s.2 ∧ st[l]? = some (logO N s.1)) ∧ Pst st N S ps
  | _, _ => False
structure Arch (a b N : Nat) (st : Store) (S : List Stt) (c : Stt) : Prop where
  ne : a ≠ b
  ex : ∃ l ps, st[a]? = some (arO (pairD l c.2) b) ∧ st[b]? = some (.lst ps) ∧ st[l]? = some (logO N c.1) ∧ Pst st N S ps
/-- all but the archive unchanged -/
def Oth (a b : Nat) (st st' : Store) : Prop := st.length ≤ st'.length ∧ ∀ i, i < st.length → i ≠ a → i ≠ b → st'[i]? = st[i]?
theorem Oth.refl {a b : Nat} {st : Store} : Oth a b st st := ⟨Nat.le_refl _, fun _ _ _ _ => rfl⟩
theorem Oth.trans {a b : Nat} {st s1 s2 : Store} (h : Oth a b st s1) (h2 : Oth a b s1 s2) : Oth a b st s2 := ⟨Nat.le_trans h.1 h2.1, fun i hi h3 h4 => (h2.2 i (Nat.lt_of_lt_of_le hi h.1) h3 h4).trans (h.2 i hi h3 h4)⟩
theorem Pst.len {st : Store} {N : Nat} : ∀ {S : List Stt} {ps : List D}, Pst st N S ps → ps.length = S.length
  | [], [], _ => rfl
  | _ :: S, _ :: ps, h => by simp [Pst.len h.2]
/-- where all logs stand still -/
theorem Pst.keep' {st st' : Store} {N : Nat} : ∀ {S : List Stt} {ps : List D}, (∀ (l : Nat) (rs : List Rw), st[l]? = some (logO N rs) → st'[l]? = some (logO N rs)) → Pst st N S ps → Pst st' N S ps
  | [], [], _, _ => trivial
  | s :: S, p :: ps, k, ⟨⟨l, e, h⟩, hs⟩ => ⟨⟨l, e, k l _ h⟩, Pst.keep' k hs⟩
theorem Pst.snoc {st : Store} {N : Nat} {c : Stt} {l : Nat} (hl : st[l]? = some (logO N c.1)) : ∀ {S : List Stt} {ps : List D}, Pst st N S ps → Pst st N (S ++ [c]) (ps ++ [pairD l c.2])
  | [], [], _ => ⟨⟨l, rfl, hl⟩, trivial⟩
  | _ :: S, _ :: ps, h => ⟨h.1, Pst.snoc hl h.2⟩
theorem Pst.last {st : Store} {N : Nat} {c : Stt} : ∀ {S : List Stt} {ps : List D}, Pst st N (S ++ [c]) ps → ∃ l qs, ps = qs ++ [pairD l c.2] ∧ st[l]? = some (logO N c.1) ∧ Pst st N S qs
  | [], [p], h => by obtain ⟨⟨l, rfl, e⟩, _⟩ := h; exact ⟨l, [], rfl, e, trivial⟩
  | [], p :: q :: ps, h => h.2.elim
  | [], [], h => h.elim
  | _ :: S, p :: ps, h => by
    obtain ⟨l, qs, rfl, e, k⟩ := Pst.last h.2
    exact ⟨l, p :: qs, rfl, e, h.1, k⟩
  | _ :: S, [], h => h.elim
theorem Pst.cut {st : Store} {N n : Nat} : ∀ {S : List Stt} {ps : List D}, Pst st N S ps → closeds n ps = true → Pst (st.take n) N S ps
  | [], [], _, _ => trivial
  | s :: S, p :: ps, ⟨⟨l, e, h⟩, hs⟩, hc => by
    subst e
    simp only [closeds, Bool.and_eq_true, pairD, closed, decide_eq_true_eq] at hc
    exact ⟨⟨l, rfl, by rw [List.getElem?_take_of_lt hc.1.1]; exact h⟩, Pst.cut hs hc.2⟩
theorem Pst.closed {st : Store} {N : Nat} (hf : ∀ n (fs : List Fd), closeds n (fs.map fdD) = true) : ∀ {S : List Stt} {ps : List D}, Pst st N S ps → closeds st.length ps = true
  | [], [], _ => rfl
  | s :: S, p :: ps, ⟨⟨l, e, h⟩, hs⟩ => by
    subst e
    have hl := (List.getElem?_eq_some_iff.mp h).1
    simp [closeds, pairD, TK.closed, hl, hf, Pst.closed hf hs]
theorem fds_closed (n : Nat) : ∀ fs : List Fd, closeds n (fs.map fdD) = true
  | [] => rfl
  | f :: fs => by simp [closeds, closed, fdD, fds_closed n fs]
theorem logO_ne_lst {N : Nat} {rs : List Rw} {xs : List D} : logO N rs ≠ .lst xs := by unfold logO; intro e; cases e
theorem logO_ne_arO {N : Nat} {rs : List Rw} {x : D} {b : Nat} : logO N rs ≠ arO x b := by
  unfold logO arO
  intro e
  have : ("Log" : Str) = "Archive" := by injection e
  exact absurd this (by decide +kernel)
theorem Arch.cut {a b N : Nat} {st st' : Store} {S0 S : List Stt} {c0 c : Stt} (h0 : Arch a b N st S0 c0) (h : Arch a b N st' S c) (t : Trim st st') : Arch a b N (st'.take st.length) S c := by
  obtain ⟨hn, l0, ps0, a0, b0, e0, p0⟩ := h0
  obtain ⟨_, l, ps, a1, b1, e1, p1⟩ := h
  have ha := (List.getElem?_eq_some_iff.mp a0).1
  have hb := (List.getElem?_eq_some_iff.mp b0).1
  have hl0 := (List.getElem?_eq_some_iff.mp e0).1
  refine ⟨hn, l, ps, by rw [List.getElem?_take_of_lt ha]; exact a1, by rw [List.getElem?_take_of_lt hb]; exact b1, ?_, p1.cut ?_⟩
  · have hl : l < st.length := by
      rcases t a ha with e | ⟨o, e, ho⟩
      · rw [a1, a0] at e
        have e : arO (pairD l c.2) b = arO (pairD l0 c0.2) b := Option.some.inj e
        unfold arO pairD at e
        simp at e
        rw [e.1]; exact hl0
      · rw [a1] at e
        cases e
        simp [closedO, arO, closedF, closed, closeds, pairD] at ho
        exact ho.1.1
    rw [List.getElem?_take_of_lt hl]; exact e1
  · rcases t b hb with e | ⟨o, e, ho⟩
    · rw [b1, b0] at e
      cases e
      exact p0.closed fds_closed
    · rw [b1] at e
      cases e
      exact ho
theorem Oth.cut {a b : Nat} {st st' : Store} (h : Oth a b st st') : Oth a b st (st'.take st.length) := ⟨by rw [List.length_take]; have := h.1; omega, fun i hi h1 h2 => by rw [List.getElem?_take_of_lt hi]; exact h.2 i hi h1 h2⟩
/-- a call that changes nothing but the archive -/
theorem gcA {a b N : Nat} {st st' : Store} {S0 S : List Stt} {c0 c : Stt} {d : D} (h0 : Arch a b N st S0 c0) (h : Arch a b N st' S c) (o : Oth a b st st') (hd : closed st.length d = true) : ∃ s2, gcH st (.ok d st') = .ok d s2 ∧ Arch a b N s2 S c ∧ Oth a b st s2 := by
  rcases gc_cases (st' := st') hd with e | ⟨t, e⟩
  · exact ⟨st', e, h, o⟩
  · exact ⟨_, e, h0.cut h t, o.cut⟩
theorem Arch.app {a b N : Nat} {st : Store} {S : List Stt} {c : Stt} (h : Arch a b N st S c) (x : Store) : Arch a b N (st ++ x) S c := by
  obtain ⟨hn, l, ps, a1, b1, e1, p1⟩ := h
  have k : ∀ i o, st[i]? = some o → (st ++ x)[i]? = some o := fun i o e => by rw [List.getElem?_append_left (List.getElem?_eq_some_iff.mp e).1]; exact e
  exact ⟨hn, l, ps, k _ _ a1, k _ _ b1, k _ _ e1, Pst.keep' (fun l rs e => k _ _ e) p1⟩
theorem Oth.app {a b : Nat} {st : Store} (x : Store) : Oth a b st (st ++ x) := ⟨by simp, fun i hi _ _ => List.getElem?_append_left hi⟩
/-- gone on to another pair -/
theorem Arch.step {a b N : Nat} {st : Store} {S : List Stt} {c c' : Stt} {x : D} {ps : List D} {l' : Nat} (h : Arch a b N st S c) (hx : st[a]? = some (arO x b)) (hps : st[b]? = some (.lst ps)) (hl' : st[l']? = some (logO N c'.1)) :
    Arch a b N ((st.set b (.lst (ps ++ [x]))).set a (arO (pairD l' c'.2) b)) (S ++ [c]) c' := by
  obtain ⟨hn, l, qs, a1, b1, e1, p1⟩ := h
  rw [hps] at b1; cases b1
  rw [hx] at a1
  have ex : x = pairD l c.2 := by
    have e : arO x b = arO (pairD l c.2) b := Option.some.inj a1
    unfold arO at e
    simpa using e
  subst ex
  have ha := (List.getElem?_eq_some_iff.mp hx).1
  have hb := (List.getElem?_eq_some_iff.mp hps).1
  have k : ∀ i rs, st[i]? = some (logO N rs) → ((st.set b (.lst (ps ++ [pairD l c.2]))).set a (arO (pairD l' c'.2) b))[i]? = some (logO N rs) := fun i rs e => by
    have h1 : a ≠ i := fun q => by subst q; rw [hx] at e; exact logO_ne_arO (Option.some.inj e).symm
    have h2 : b ≠ i := fun q => by subst q; rw [hps] at e; exact logO_ne_lst (Option.some.inj e).symm
    rw [List.getElem?_set_ne h1, List.getElem?_set_ne h2]; exact e
  refine ⟨hn, l', ps ++ [pairD l c.2], by rw [List.getElem?_set_self (by simpa using ha)], by rw [List.getElem?_set_ne hn, List.getElem?_set_self hb], k _ _ hl', ?_⟩
  exact Pst.keep' k (p1.snoc e1)
end TK

set_option Elab.async false
set_option linter.all false
set_option maxRecDepth 100000
set_option maxHeartbeats 4000000
namespace TK
open PySem PySem.Spec
open PyProof.Rows hiding St
open L2
variable {st : Store} {a b n N : Nat} {k : Int} {S : List Stt} {c : Stt}
theorem lkA (x y : D) : List.lookup ("pair" : Str) [(("pair" : Str), x), ("past", y)] = some x := by
  rw [List.lookup_cons, show (("pair" : Str) == "pair") = true from by decide +kernel]
theorem lkB (x y : D) : List.lookup ("past" : Str) [(("pair" : Str), x), ("past", y)] = some y := by
  rw [List.lookup_cons, show (("past" : Str) == "pair") = false from by decide +kernel, List.lookup_cons, show (("past" : Str) == "past") = true from by decide +kernel]
theorem self_ok {m : Str} {x : D} (h : st[a]? = some (arO x b)) (h1 : (m == ("pair" : Str)) = false) (h2 : (m == ("past" : Str)) = false) : selfR "Archive" m (.ref a) st = .ok (.ref a) st := by
  have : List.lookup m [(("pair" : Str), x), ("past", .ref b)] = none := by rw [List.lookup_cons, h1, List.lookup_cons, h2]; rfl
  simp [selfR, h, arO, this]
theorem change_ok {x d e : D} {ps : List D} (h : st[a]? = some (arO x b)) (hp : st[b]? = some (.lst ps)) (hn : a ≠ b) (hl : ps.length < sizeLine) :
    m_Archive__m_change [.ref a, d, e] st = .ok .non ((st.set b (.lst (ps ++ [x]))).set a (arO (.tup [d, e]) b)) := by
  have h' : st[a]? = some (.ins "Archive" [("pair", x), ("past", .ref b)]) := h
  have ap := appendG_ref (d := x) hp hl
  have h2 : (st.set b (.lst (ps ++ [x])))[a]? = some (.ins "Archive" [("pair", x), ("past", .ref b)]) := by rw [List.getElem?_set_ne (Ne.symm hn)]; exact h
  have z2 : 2 ≤ sizeLine := szl (by omega)
  simp [m_Archive__m_change_eq, h', hp, lkA, lkB, ap, h2, okIf_pos z2, putFD, arO]
theorem now_ok {x : D} (h : st[a]? = some (arO x b)) : m_Archive__m_now [.ref a] st = .ok x st := by
  have h' : st[a]? = some (.ins "Archive" [("pair", x), ("past", .ref b)]) := h
  simp [m_Archive__m_now_eq, h', lkA]
theorem steps_ok {x : D} {ps : List D} (h : st[a]? = some (arO x b)) (hp : st[b]? = some (.lst ps)) : m_Archive__m_steps [.ref a] st = .ok (.int ps.length) st := by
  have h' : st[a]? = some (.ins "Archive" [("pair", x), ("past", .ref b)]) := h
  simp [m_Archive__m_steps_eq, h', lkB, hp]

theorem fd0 (f : Fd) : getD (fdD f) (.int 0) st = .ok (.int f.m) st := getD_at (k := 0) rfl
theorem fd1 (f : Fd) : getD (fdD f) (.int 1) st = .ok (.int f.o) st := getD_at (k := 1) rfl
theorem fd2 (f : Fd) : getD (fdD f) (.int 2) st = .ok (.int f.e) st := getD_at (k := 2) rfl
theorem moved_up (i : Nat) (f : Fd) : m_moved_find [fdD f, .int ((i : Int) + 1), .int 1] st = .ok (fdD (fdU i f)) st := by
  have z3 : 3 ≤ sizeLine := szl (by omega)
  by_cases e : i + 1 ≤ f.m
  · have e' : ¬ (f.m : Int) < (i : Int) + 1 := by omega
    simp [m_moved_find_eq, fd0, fd1, fd2, fdU, e, e', okIf_pos z3]
    simp [fdD]
  · have e' : (f.m : Int) < (i : Int) + 1 := by omega
    simp [m_moved_find_eq, fd0, fd1, fd2, fdU, e, e']
theorem moved_dn (i : Nat) (f : Fd) : m_moved_find [fdD f, .int ((i : Int) + 1), .int (-1)] st = .ok (fdD (fdW i f)) st := by
  have z3 : 3 ≤ sizeLine := szl (by omega)
  by_cases e : i + 1 ≤ f.m
  · have e' : ¬ (f.m : Int) < (i : Int) + 1 := by omega
    have e2 : (f.m : Int) + -1 = ((f.m - 1 : Nat) : Int) := by omega
    simp [m_moved_find_eq, fd0, fd1, fd2, fdW, e, e', okIf_pos z3, e2]
    simp [fdD]
  · have e' : (f.m : Int) < (i : Int) + 1 := by omega
    simp [m_moved_find_eq, fd0, fd1, fd2, fdW, e, e']
theorem gcR_fd (f : Fd) : gcH st (.ok (fdD f) st) = .ok (fdD f) st := gcR_same (by simp [fdD, closed, closeds])
end TK

set_option Elab.async false
set_option linter.all false
set_option maxRecDepth 100000
set_option maxHeartbeats 4000000
namespace TK
open PySem PySem.Spec
open PyProof.Rows hiding St
open L2
variable {st : Store} {a b n N : Nat} {k : Int} {S : List Stt} {c : Stt}
noncomputable def upD (i : Nat) : D → D := fun d => match d with
  | .tup [.int m, x, y] => if (i : Int) + 1 ≤ m then .tup [.int (m + 1), x, y] else d
  | d => d
noncomputable def dnD (i : Nat) : D → D := fun d => match d with
  | .tup [.int m, x, y] => if (i : Int) + 1 ≤ m then .tup [.int (m - 1), x, y] else d
  | d => d
theorem upD_fd (i : Nat) (f : Fd) : upD i (fdD f) = fdD (fdU i f) := by
  unfold upD fdD fdU
  by_cases e : i + 1 ≤ f.m
  · have e' : (i : Int) + 1 ≤ f.m := by omega
    simp [e, e']
  · have e' : ¬ (i : Int) + 1 ≤ f.m := by omega
    simp [e, e']
theorem dnD_fd (i : Nat) (f : Fd) : dnD i (fdD f) = fdD (fdW i f) := by
  unfold dnD fdD fdW
  by_cases e : i + 1 ≤ f.m
  · have e' : (i : Int) + 1 ≤ f.m := by omega
    simp [e, e']; omega
  · have e' : ¬ (i : Int) + 1 ≤ f.m := by omega
    simp [e, e']
theorem up_map (i : Nat) (fs : List Fd) : (fs.map fdD).map (upD i) = (fs.map (fdU i)).map fdD := by
  rw [List.map_map, List.map_map]
  exact List.map_congr_left fun f _ => upD_fd i f
theorem dn_map (i : Nat) (fs : List Fd) : (fs.map fdD).map (dnD i) = (fs.map (fdW i)).map fdD := by
  rw [List.map_map, List.map_map]
  exact List.map_congr_left fun f _ => dnD_fd i f
theorem fresh_log {m : D} {rs : List Rw} {R0 : R D} (h : Arch a b N st S c) (w : R0 = .ok (.ref st.length) (st ++ [logO N rs])) : ∃ q s1, R0 = .ok (.ref q) s1 ∧ Arch a b N s1 S c ∧ Oth a b st s1 ∧ s1[q]? = some (logO N rs) ∧ (∀ (i : Nat) (o : AO), st[i]? = some o → s1[i]? = some o) :=
  ⟨st.length, _, w, h.app _, .app _, by simp, fun i o e => by rw [List.getElem?_append_left (List.getElem?_eq_some_iff.mp e).1]; exact e⟩
/-- gone on, within a def of the archive -/
theorem go_ok {x : D} {ps : List D} {l' : Nat} {rs : List Rw} {fs : List Fd} (h : Arch a b N st S c) (hS : S.length ≤ 10000) (hl' : st[l']? = some (logO N rs)) :
    ∃ st', selfR "Archive" "change" (.ref a) st = .ok (.ref a) st ∧ gcH st (m_Archive__m_change [.ref a, .ref l', .tup (fs.map fdD)] st) = .ok .non st' ∧ Arch a b N st' (S ++ [c]) (rs, fs) ∧ Oth a b st st' := by
  have h0 := h
  obtain ⟨hn, l, ps, a1, b1, e1, p1⟩ := h
  have hl : ps.length < sizeLine := by have := p1.len; have q : ps.length + 1 ≤ sizeLine := szl (by omega); omega
  refine ⟨_, self_ok a1 (by decide +kernel) (by decide +kernel), by rw [change_ok a1 b1 hn hl]; exact gc_len rfl (by simp), h0.step (c' := (rs, fs)) a1 b1 hl', by simp, fun j hj h1 h2 => ?_⟩
  rw [List.getElem?_set_ne (Ne.symm h1), List.getElem?_set_ne (Ne.symm h2)]
theorem most_ok {m : Nat} {M : Int} (h : (m : Int) ≤ M) : m_check_most [.int m, .int M] st = .ok .non st := by
  have m1 : (M < (m : Int)) = False := by simp; omega
  simp [m_check_most_eq, m1]
theorem put_ok {i : Nat} {r : Rw} (h : Arch a b N st S c) (hs : SOk N c) (hN1 : 1 ≤ N) (hN : N ≤ 12) (hS : S.length ≤ 10000) (hd : deedOk N c (.put i r)) :
    ∃ st', m_Archive__m_put [.ref a, .int i, rwD r] st = .ok .non st' ∧ Arch a b N st' (S ++ [c]) (beh c (.put i r)) ∧ Oth a b st st' := by
  obtain ⟨q1, q2, q3⟩ := hd
  have h0 := h
  obtain ⟨hn, l, ps, a1, b1, e1, p1⟩ := h
  have hlen : (c.1.take i ++ r :: c.1.drop i).length = c.1.length + 1 := by simp; omega
  have eb : beh c (.put i r) = (c.1.take i ++ r :: c.1.drop i, c.2.map (fdU i)) := rfl
  obtain ⟨q, s1, w, A1, O1, L1, K1⟩ := fresh_log (m := .non) h0 (with_row_ok e1 q1 q2 hN1 hN (by omega))
  generalize c.1.take i ++ r :: c.1.drop i = rs' at *
  have a1' : st[a]? = some (.ins "Archive" [("pair", .tup [.ref l, .tup (c.2.map fdD)]), ("past", .ref b)]) := a1
  obtain ⟨s2, sf, ch, A2, O2⟩ := go_ok (x := .non) (ps := []) (fs := c.2.map (fdU i)) A1 hS L1
  have L1' : s1[q]? = some (.ins "Log" [("offices", .int N), ("rows", .tup (rs'.map rwD))]) := L1
  have cm := most_ok (st := s1) (m := rs'.length) (M := 60) (by omega)
  have zc : c.2.length ≤ sizeLine := szl (by have := hs.k; omega)
  refine ⟨s2, ?_, by rw [eb]; exact A2, O1.trans O2⟩
  rw [m_Archive__m_put_eq]
  simp [-List.map_map, -List.map_append, a1', lkA, w, L1', lkR, cm, sf, okIf_pos zc]
  generalize hq : compL _ _ _ _ _ _ _ = r1
  have := compL_mapE hq (by simp) (fun _ => true) (upD i) fun d hd => by
    obtain ⟨f, _, rfl⟩ := List.mem_map.mp hd
    exact ⟨_, asgT_name _ _ _, rfl, fun _ => by simp [moved_up, upD_fd, gcR_fd]⟩
  rw [this, map_true, up_map]
  simp [-List.map_map, -List.map_append, zc, ch]
theorem strike_ok {i : Nat} (h : Arch a b N st S c) (hs : SOk N c) (hN1 : 1 ≤ N) (hN : N ≤ 12) (hS : S.length ≤ 10000) (hd : deedOk N c (.strike i)) :
    ∃ st', m_Archive__m_strike [.ref a, .int i] st = .ok .non st' ∧ Arch a b N st' (S ++ [c]) (beh c (.strike i)) ∧ Oth a b st st' := by
  have hd : i < c.1.length := hd
  have h0 := h
  obtain ⟨hn, l, ps, a1, b1, e1, p1⟩ := h
  have hc : m_check_row [.ref l, .int i] st = .ok .non st := by
    have a2 : (i : Int) ≤ (c.1.length : Int) - 1 := by omega
    simp [m_check_row_eq, log_at e1, lkR, is_within_ok, a2]
  obtain ⟨q, s1, w, A1, O1, L1, K1⟩ := fresh_log (m := .non) h0 (without_ok e1 hd hN1 hN (by have := hs.l; omega))
  have a1' : st[a]? = some (.ins "Archive" [("pair", .tup [.ref l, .tup (c.2.map fdD)]), ("past", .ref b)]) := a1
  have sf0 := self_ok (m := "change") a1 (by decide +kernel) (by decide +kernel)
  obtain ⟨s2, sf, ch, A2, O2⟩ := go_ok (x := .non) (ps := []) (fs := c.2.map (fdW i)) A1 hS L1
  have zc : c.2.length ≤ sizeLine := szl (by have := hs.k; omega)
  refine ⟨s2, ?_, by simpa [beh] using A2, O1.trans O2⟩
  rw [m_Archive__m_strike_eq]
  simp [-List.map_map, -List.map_append, a1', lkA, hc, w, sf0, okIf_pos zc]
  generalize hq : compL _ _ _ _ _ _ _ = r1
  have := compL_mapE hq (by simp) (fun _ => true) (dnD i) fun d hd => by
    obtain ⟨f, _, rfl⟩ := List.mem_map.mp hd
    exact ⟨_, asgT_name _ _ _, rfl, fun _ => by simp [moved_dn, dnD_fd, gcR_fd]⟩
  rw [this, map_true, dn_map]
  simp [-List.map_map, -List.map_append, zc, ch]
theorem is_find_ok {l : Nat} {rs : List Rw} {f : Fd} (h : st[l]? = some (logO N rs)) (hf : FdOk N rs.length f) : m_is_find [.ref l, fdD f] st = .ok (.bl true) st := by
  obtain ⟨h1, h2, h3⟩ := hf
  have t : m_is_triple [fdD f] st = .ok (.bl true) st := by simp [m_is_triple_eq, fdD]
  have i1 : (f.m : Int) ≤ (rs.length : Int) := by omega
  have i2 : (f.o : Int) ≤ (N : Int) - 1 := by omega
  have i3 : (f.e : Int) ≤ (N : Int) - 1 := by omega
  simp [m_is_find_eq, t, fd0, fd1, fd2, log_at h, lkO, lkR, is_within_ok, i1, i2, i3]
theorem show_ok {f : Fd} (h : Arch a b N st S c) (hs : SOk N c) (hS : S.length ≤ 10000) (hd : deedOk N c (.sho f)) :
    ∃ st', m_Archive__m_show [.ref a, fdD f] st = .ok .non st' ∧ Arch a b N st' (S ++ [c]) (beh c (.sho f)) ∧ Oth a b st st' := by
  obtain ⟨q1, q2⟩ := hd
  have h0 := h
  obtain ⟨hn, l, ps, a1, b1, e1, p1⟩ := h
  have a1' : st[a]? = some (.ins "Archive" [("pair", .tup [.ref l, .tup (c.2.map fdD)]), ("past", .ref b)]) := a1
  obtain ⟨s2, sf, ch, A2, O2⟩ := go_ok (x := .non) (ps := []) (fs := c.2 ++ [f]) h0 hS e1
  have cm := most_ok (st := st) (m := c.2.length + 1) (M := 40) (by omega)
  have isf := is_find_ok e1 q1
  have z1 : 1 ≤ sizeLine := szl (by omega)
  have z2 : c.2.length + 1 ≤ sizeLine := szl (by omega)
  have e2 : ((c.2.length + 1 : Nat) : Int) = (c.2.length : Int) + 1 := by omega
  rw [e2] at cm
  rw [List.map_append] at ch
  refine ⟨s2, ?_, by simpa [beh] using A2, O2⟩
  rw [m_Archive__m_show_eq]
  simp at ch
  simp [a1', lkA, isf, cm, sf, okIf_pos z1, okIf_pos z2, ch]
end TK

set_option Elab.async false
set_option linter.all false
set_option maxRecDepth 100000
set_option maxHeartbeats 4000000
namespace TK
open PySem PySem.Spec
open PyProof.Rows hiding St
open L2
variable {st : Store} {a b g n N : Nat} {k : Int} {S : List Stt} {c : Stt}
def stD (s : Stt) : D := .tup [.tup (s.1.map rwD), .tup (s.2.map fdD)]
theorem popG_ref {m : Nat} {xs : List D} {d : D} (h : st[m]? = some (.lst (xs ++ [d]))) : popG (.ref m) [] st = .ok d (st.set m (.lst xs)) := by
  unfold popG
  simp [h]
theorem back_ok {c' : Stt} (h : Arch a b N st (S ++ [c']) c) : ∃ st', m_Archive__m_back [.ref a] st = .ok .non st' ∧ Arch a b N st' S c' ∧ Oth a b st st' := by
  obtain ⟨hn, l, ps, a1, b1, e1, p1⟩ := h
  obtain ⟨l', qs, rfl, e2, p2⟩ := p1.last
  have a1' : st[a]? = some (.ins "Archive" [("pair", .tup [.ref l, .tup (c.2.map fdD)]), ("past", .ref b)]) := a1
  have ha := (List.getElem?_eq_some_iff.mp a1).1
  have hb := (List.getElem?_eq_some_iff.mp b1).1
  have pp := popG_ref b1
  have a2 : (st.set b (.lst qs))[a]? = some (.ins "Archive" [("pair", .tup [.ref l, .tup (c.2.map fdD)]), ("past", .ref b)]) := by rw [List.getElem?_set_ne (Ne.symm hn)]; exact a1'
  have h0 : ((qs.length : Int) + 1 = 0) = False := by simp; omega
  have k : ∀ (i : Nat) (rs : List Rw), st[i]? = some (logO N rs) → ((st.set b (.lst qs)).set a (arO (pairD l' c'.2) b))[i]? = some (logO N rs) := fun i rs e => by
    have h1 : a ≠ i := fun q => by subst q; rw [a1] at e; exact logO_ne_arO (Option.some.inj e).symm
    have h2 : b ≠ i := fun q => by subst q; rw [b1] at e; exact logO_ne_lst (Option.some.inj e).symm
    rw [List.getElem?_set_ne h1, List.getElem?_set_ne h2]; exact e
  refine ⟨(st.set b (.lst qs)).set a (arO (pairD l' c'.2) b), ?_, ⟨hn, l', qs, by rw [List.getElem?_set_self (by simpa using ha)], by rw [List.getElem?_set_ne hn, List.getElem?_set_self hb], k _ _ e2, Pst.keep' k p2⟩, by simp, fun j hj h1 h2 => by rw [List.getElem?_set_ne (Ne.symm h1), List.getElem?_set_ne (Ne.symm h2)]⟩
  simp [m_Archive__m_back_eq, a1', lkA, lkB, b1, h0, pp, a2, putFD, arO]
theorem neI_log {p q : Nat} {rs : List Rw} (h : st[p]? = some (logO N rs)) (h2 : st[q]? = some (logO N rs)) (hl : rs.length ≤ 1000) : neI "Log" m_Log__same (.ref p) (.ref q) st = .ok (.bl false) st := by
  have g := gcR_bl (st := st) true
  unfold gcH at g
  rw [hid_eq] at g
  unfold neI
  simp only [log_at h, log_at h2, and_self, if_true]
  rw [log_eq_ok h h2 hl, g]
  rfl
theorem fds_plain {fs : List Fd} (h : fs.length ≤ 1000) (k : Nat) : plainT (k + 2) (.tup (fs.map fdD)) := ⟨by simpa using h, fun d hd => by
  obtain ⟨f, _, rfl⟩ := List.mem_map.mp hd
  refine ⟨by simp, fun x hx => ?_⟩
  simp only [List.mem_cons, List.not_mem_nil, or_false] at hx
  rcases hx with rfl | rfl | rfl <;> cases k <;> trivial⟩
theorem last_at {xs : List D} {d : D} (h : st[g]? = some (.lst (xs ++ [d]))) : getD (.ref g) (.int (-1)) st = .ok d st := by
  rw [getD_ref, seqOf_ref, h]
  simp [atI_last]
end TK

set_option Elab.async false
set_option linter.all false
set_option maxRecDepth 100000
set_option maxHeartbeats 4000000
namespace TK
open PySem PySem.Spec
open PyProof.Rows hiding St
open L2
variable {st : Store} {a b g n N : Nat} {k : Int} {S : List Stt} {c : Stt}
theorem sPP : eqD (.str "put") (.str "put") st = .ok (.bl true) st := by rw [eqD_str (by decide +kernel) (by decide +kernel)]; rfl
theorem sKP : eqD (.str "strike") (.str "put") st = .ok (.bl false) st := by rw [eqD_str (by decide +kernel) (by decide +kernel), show (("strike" : Str) == "put") = false from by decide +kernel]
theorem sHP : eqD (.str "show") (.str "put") st = .ok (.bl false) st := by rw [eqD_str (by decide +kernel) (by decide +kernel), show (("show" : Str) == "put") = false from by decide +kernel]
theorem sDP : eqD (.str "doubt") (.str "put") st = .ok (.bl false) st := by rw [eqD_str (by decide +kernel) (by decide +kernel), show (("doubt" : Str) == "put") = false from by decide +kernel]
theorem sKK : eqD (.str "strike") (.str "strike") st = .ok (.bl true) st := by rw [eqD_str (by decide +kernel) (by decide +kernel)]; rfl
theorem sHK : eqD (.str "show") (.str "strike") st = .ok (.bl false) st := by rw [eqD_str (by decide +kernel) (by decide +kernel), show (("show" : Str) == "strike") = false from by decide +kernel]
theorem sDK : eqD (.str "doubt") (.str "strike") st = .ok (.bl false) st := by rw [eqD_str (by decide +kernel) (by decide +kernel), show (("doubt" : Str) == "strike") = false from by decide +kernel]
theorem sHH : eqD (.str "show") (.str "show") st = .ok (.bl true) st := by rw [eqD_str (by decide +kernel) (by decide +kernel)]; rfl
theorem sDH : eqD (.str "doubt") (.str "show") st = .ok (.bl false) st := by rw [eqD_str (by decide +kernel) (by decide +kernel), show (("doubt" : Str) == "show") = false from by decide +kernel]
theorem pt0 (i : Nat) (r : Rw) : getD (deedD (.put i r)) (.int 0) st = .ok (.str "put") st := getD_at (k := 0) rfl
theorem pt1 (i : Nat) (r : Rw) : getD (deedD (.put i r)) (.int 1) st = .ok (.int i) st := getD_at (k := 1) rfl
theorem pt2 (i : Nat) (r : Rw) : getD (deedD (.put i r)) (.int 2) st = .ok (rwD r) st := getD_at (k := 2) rfl
theorem sk0 (i : Nat) : getD (deedD (.strike i)) (.int 0) st = .ok (.str "strike") st := getD_at (k := 0) rfl
theorem sk1 (i : Nat) : getD (deedD (.strike i)) (.int 1) st = .ok (.int i) st := getD_at (k := 1) rfl
theorem sh0 (f : Fd) : getD (deedD (.sho f)) (.int 0) st = .ok (.str "show") st := getD_at (k := 0) rfl
theorem sh1 (f : Fd) : getD (deedD (.sho f)) (.int 1) st = .ok (fdD f) st := getD_at (k := 1) rfl
theorem db0 (i : Nat) : getD (deedD (.doubt i)) (.int 0) st = .ok (.str "doubt") st := getD_at (k := 0) rfl
theorem db1 (i : Nat) : getD (deedD (.doubt i)) (.int 1) st = .ok (.int i) st := getD_at (k := 1) rfl
theorem intG_t : intG [.bl true] st = .ok (.int 1) st := (Eq.refl _).trans rfl
theorem intG_f : intG [.bl false] st = .ok (.int 0) st := (Eq.refl _).trans rfl
theorem lmv_up (i : Nat) (f : Fd) : m__law_moved [fdD f, .int ((i : Int) + 1), .int 1] st = .ok (fdD (fdU i f)) st := by
  have z3 : 3 ≤ sizeLine := szl (by omega)
  have mo : mulOk 1 1 := mulS (by omega) (by omega) (by omega) (by omega)
  have mz : mulOk 1 0 := mulS (by omega) (by omega) (by omega) (by omega)
  by_cases e : i + 1 ≤ f.m
  · have e' : (i : Int) + 1 ≤ f.m := by omega
    simp [m__law_moved_eq, fd0, fd1, fd2, fdU, e, e', okIf_pos z3, okIf_pos mo, intG_t]
    simp [fdD]
  · have e' : ¬ (i : Int) + 1 ≤ f.m := by omega
    simp [m__law_moved_eq, fd0, fd1, fd2, fdU, e, e', okIf_pos z3, okIf_pos mz, intG_f]
    simp [fdD]
theorem lmv_dn (i : Nat) (f : Fd) : m__law_moved [fdD f, .int ((i : Int) + 1), .int (-1)] st = .ok (fdD (fdW i f)) st := by
  have z3 : 3 ≤ sizeLine := szl (by omega)
  have mo : mulOk (-1) 1 := mulOk_lt (by omega) (Nat.lt_trans (show (1 : Int).natAbs < 2 ^ 64 by omega) (by decide))
  have mz : mulOk (-1) 0 := mulOk_lt (by omega) (Nat.lt_trans (show (0 : Int).natAbs < 2 ^ 64 by omega) (by decide))
  by_cases e : i + 1 ≤ f.m
  · have e' : (i : Int) + 1 ≤ f.m := by omega
    have e2 : (f.m : Int) + -1 = ((f.m - 1 : Nat) : Int) := by omega
    simp [m__law_moved_eq, fd0, fd1, fd2, fdW, e, e', okIf_pos z3, okIf_pos mo, intG_t, e2]
    simp [fdD]
  · have e' : ¬ (i : Int) + 1 ≤ f.m := by omega
    simp [m__law_moved_eq, fd0, fd1, fd2, fdW, e, e', okIf_pos z3, okIf_pos mz, intG_f]
    simp [fdD]

end TK

set_option Elab.async false
set_option linter.all false
set_option maxRecDepth 100000
set_option maxHeartbeats 4000000
namespace TK
open PySem PySem.Spec
open PyProof.Rows hiding St
open L2
variable {st : Store} {a b g n N : Nat} {k : Int} {S : List Stt} {c : Stt}
theorem find_ok {q : Nat} {rs : List Rw} {fs : List Bool} (h : Dice n k st) (hk : k < 100000) (hq : st[q]? = some (.lst (ledL N rs fs (rs.length + 1)))) (hne : q ≠ n) (hrs : ∀ r ∈ rs, RwOk N r) (hM : rs.length ≤ 1000) (hN1 : 1 ≤ N) (hN : N ≤ 12) :
    ∃ f st', gcH st (m__law_find [.ref n, .int N, .ref q] st) = .ok (fdD f) st' ∧ FdOk N rs.length f ∧ Dice n (k + 4) st' ∧ SameBut n st st' := by
  have z3 : 3 ≤ sizeLine := szl (by omega)
  have hlen : (ledL N rs fs (rs.length + 1)).length = rs.length + 1 := by simp [ledL]
  obtain ⟨m, s1, hm, m0, m1, D1, S1⟩ := draw_ok (s := ((ledL N rs fs (rs.length + 1)).length : Int)) h (by omega) (by omega) (by omega)
  rw [hlen] at m1
  obtain ⟨m, rfl⟩ : ∃ x : Nat, m = x := ⟨m.toNat, by omega⟩
  obtain ⟨o, s2, ho, o0, o1, D2, S2⟩ := draw_ok (s := (N : Int)) D1 (by omega) (by omega) (by omega)
  obtain ⟨o, rfl⟩ : ∃ x : Nat, o = x := ⟨o.toNat, by omega⟩
  obtain ⟨t, s3, ht, t0, t1, D3, S3⟩ := draw_ok (s := 4) D2 (by omega) (by omega) (by omega)
  have S13 := (S1.trans S2).trans S3
  by_cases et : t = 0
  · obtain ⟨e, s4, he, e0, e1, D4, S4⟩ := draw_ok (s := (N : Int)) D3 (by omega) (by omega) (by omega)
    obtain ⟨e, rfl⟩ : ∃ x : Nat, e = x := ⟨e.toNat, by omega⟩
    obtain ⟨s5, h5, D5, S5⟩ := gc_near (d := fdD ⟨m, o, e⟩) D4 h.lt (S13.trans S4).near (by simp [fdD, closed, closeds])
    refine ⟨⟨m, o, e⟩, s5, ?_, ⟨by simp; omega, by simp; omega, by simp; omega⟩, D5.mono (by omega), S5⟩
    rw [← h5, m__law_find_eq]
    congr 1
    simp [hq, hm, ho, ht, et, he, okIf_pos z3, fdD]
  · have hq3 : s3[q]? = some (.lst (ledL N rs fs (rs.length + 1))) := by rw [S13.2 q hne]; exact hq
    have hrow := ledS_row (N := N) (rs := rs) (fs := fs) hrs m
    obtain ⟨hp, hb⟩ := ris_all hrow.2
    have hol : o < (ledS N rs fs m).length := by rw [hrow.1]; omega
    have hbo := hb _ (List.getElem_mem hol)
    obtain ⟨e, he⟩ : ∃ x : Nat, (ledS N rs fs m)[o] = x := ⟨((ledS N rs fs m)[o]).toNat, by omega⟩
    have g1 : getD (.ref q) (.int m) s3 = .ok (ledD N rs fs m) s3 := getD_r hq3 rfl (ledL_at (by omega))
    have g2 : getD (ledD N rs fs m) (.int o) s3 = .ok (.int e) s3 := getD_at (by rw [List.getElem?_map, List.getElem?_eq_getElem hol, he]; rfl)
    obtain ⟨s5, h5, D5, S5⟩ := gc_near (d := fdD ⟨m, o, e⟩) D3 h.lt S13.near (by simp [fdD, closed, closeds])
    refine ⟨⟨m, o, e⟩, s5, ?_, ⟨by simp; omega, by simp; omega, by simp; omega⟩, D5.mono (by omega), S5⟩
    rw [← h5, m__law_find_eq]
    congr 1
    simp [hq, hm, ho, ht, et, g1, g2, okIf_pos z3, fdD]
theorem lDrop_dice {fe : EF} {env : AEnv} {s1 s2 : Store} {zs : List D} (e : fe env s1 = .ok (.ref s2.length) (s2 ++ [.lst zs])) (h : Dice n k s2) (hn : n < s1.length) (S : SameBut n s1 s2) (hc : closeds s1.length zs = true) : lDrop fe env s1 = .ok zs s2 := by
  have ht : Trim s1 (s2 ++ [.lst zs]) := fun i hi => by
    have hi2 : i < s2.length := by rw [S.1]; exact hi
    rw [List.getElem?_append_left hi2]
    by_cases e : i = n
    · subst e
      obtain ⟨c, cells, a, b, m, e, h0, hn1, hc, _⟩ := h
      refine .inr ⟨.lst [.ref c, .int a, .int b, .int m, .int e], ?_, ?_⟩
      · rw [h0]; exact dS_at hn1
      · simp [closedO, closeds, closed]; omega
    · exact .inl (S.2 i e)
  have e2 : (s2 ++ [AO.lst zs]).take s1.length = s2 := by rw [← S.1]; simp
  unfold lDrop
  rw [e]
  simp only
  rw [if_pos ⟨ht, by rw [S.1]; exact Nat.le_refl _⟩, e2]
  simp [hc]
end TK

set_option Elab.async false
set_option linter.all false
set_option maxRecDepth 100000
set_option maxHeartbeats 4000000
namespace TK
open PySem PySem.Spec
open PyProof.Rows hiding St
open L2
variable {st : Store} {a b g n N : Nat} {k : Int} {S : List Stt} {c : Stt}
theorem Dice.of_le {st' : Store} (h : Dice n k st) (hl : st.length ≤ st'.length) (he : ∀ i, i ≤ n → st'[i]? = st[i]?) : Dice n k st' := by
  obtain ⟨c, cells, a, b, m, e, h0, hn, hc, hcell, hr⟩ := h
  refine ⟨c, cells, a, b, m, e, ?_, by omega, hc, by rw [he c (by omega)]; exact hcell, hr⟩
  have hx : st'[n]? = some (.lst [.ref c, .int a, .int b, .int m, .int e]) := by rw [he n (Nat.le_refl _), h0]; exact dS_at hn
  unfold dS
  apply List.ext_getElem?
  intro i
  by_cases q : n = i
  · subst q
    rw [List.getElem?_set_self (by omega)]; exact hx
  · rw [List.getElem?_set_ne q]
theorem Dice.take {m : Nat} (h : Dice n k st) (hm : n < m) : Dice n k (st.take m) := by
  have := h.lt
  obtain ⟨c, cells, a, b, mm, e, h0, hn1, hc, hcell, hr⟩ := h
  refine ⟨c, cells, a, b, mm, e, ?_, by rw [List.length_take]; omega, hc, ?_, hr⟩
  · unfold dS at h0 ⊢
    rw [← List.take_set, ← h0]
  · rw [List.getElem?_take_of_lt (by omega)]; exact hcell
theorem Arch.keep {st' : Store} (h : Arch a b N st S c) (ha : st'[a]? = st[a]?) (hb : st'[b]? = st[b]?) (k : ∀ (i : Nat) (rs : List Rw), st[i]? = some (logO N rs) → st'[i]? = some (logO N rs)) : Arch a b N st' S c := by
  obtain ⟨hn, l, ps, a1, b1, e1, p1⟩ := h
  exact ⟨hn, l, ps, by rw [ha]; exact a1, by rw [hb]; exact b1, k _ _ e1, Pst.keep' k p1⟩
theorem Arch.setL {xs ys : List D} (h : Arch a b N st S c) (hg : st[g]? = some (.lst xs)) (h1 : g ≠ a) (h2 : g ≠ b) : Arch a b N (st.set g (.lst ys)) S c :=
  h.keep (by rw [List.getElem?_set_ne h1]) (by rw [List.getElem?_set_ne h2]) fun i rs e => by
    have : g ≠ i := fun q => by subst q; rw [hg] at e; exact logO_ne_lst (Option.some.inj e).symm
    rw [List.getElem?_set_ne this]; exact e
structure LawI (a b g N : Nat) (k : Int) (st : Store) (S : List Stt) (c : Stt) : Prop where
  di : Dice 2 k st
  ar : Arch a b N st S c
  sg : st[g]? = some (.lst ((S ++ [c]).map stD))
  ok : ∀ s ∈ S ++ [c], SOk N s
  a2 : 2 < a
  b2 : 2 < b
  g2 : 2 < g
  ga : g ≠ a
  gb : g ≠ b
theorem LawI.cur (h : LawI a b g N k st S c) : SOk N c := h.ok c (by simp)
theorem LawI.same {k' : Int} {st' : Store} (h : LawI a b g N k st S c) (d : Dice 2 k' st') (s : SameBut 2 st st') : LawI a b g N k' st' S c := by
  obtain ⟨cc, cells, x, y, m, e, h0, hn, hc, _⟩ := h.di
  have h2 : st[2]? = some (.lst [.ref cc, .int x, .int y, .int m, .int e]) := by rw [h0]; exact dS_at hn
  refine ⟨d, h.ar.keep (s.2 a (by have := h.a2; omega)) (s.2 b (by have := h.b2; omega)) fun i rs e => ?_, by rw [s.2 g (by have := h.g2; omega)]; exact h.sg, h.ok, h.a2, h.b2, h.g2, h.ga, h.gb⟩
  have : i ≠ 2 := fun q => by subst q; rw [h2] at e; exact logO_ne_lst (Option.some.inj e).symm
  rw [s.2 i this]; exact e
theorem LawI.cut {k' : Int} {st' : Store} {S' : List Stt} {c' : Stt} (h0 : LawI a b g N k st S c) (h : LawI a b g N k' st' S' c') (t : Trim st st') : LawI a b g N k' (st'.take st.length) S' c' :=
  ⟨h.di.take h0.di.lt, h0.ar.cut h.ar t, by rw [List.getElem?_take_of_lt (List.getElem?_eq_some_iff.mp h0.sg).1]; exact h.sg, h.ok, h.a2, h.b2, h.g2, h.ga, h.gb⟩
theorem LawI.gc {k' : Int} {st' : Store} {S' : List Stt} {c' : Stt} {d : D} (h0 : LawI a b g N k st S c) (h : LawI a b g N k' st' S' c') (hd : closed st.length d = true) : ∃ s2, gcH st (.ok d st') = .ok d s2 ∧ LawI a b g N k' s2 S' c' := by
  rcases gc_cases (st' := st') hd with e | ⟨t, e⟩
  · exact ⟨st', e, h⟩
  · exact ⟨_, e, h0.cut h t⟩
theorem LawI.mono {k' : Int} (h : LawI a b g N k st S c) (hk : k ≤ k') : LawI a b g N k' st S c := ⟨h.di.mono hk, h.ar, h.sg, h.ok, h.a2, h.b2, h.g2, h.ga, h.gb⟩
/-- the states gone on, then the archive -/
theorem LawI.go {S' : List Stt} {c' : Stt} {st' : Store} (h : LawI a b g N k st S c) (ha : Arch a b N st' S' c') (ho : Oth a b (st.set g (.lst ((S' ++ [c']).map stD))) st') (hs : ∀ s ∈ S' ++ [c'], SOk N s) : LawI a b g N k st' S' c' := by
  have hl := (List.getElem?_eq_some_iff.mp h.sg).1
  refine ⟨h.di.of_le (by have := ho.1; simpa using this) fun i hi => ?_, ha, ?_, hs, h.a2, h.b2, h.g2, h.ga, h.gb⟩
  · have h1 := h.a2
    have h2 := h.b2
    have h3 := h.g2
    have h4 := h.di.lt
    rw [ho.2 i (by simp; omega) (by omega) (by omega), List.getElem?_set_ne (by omega)]
  · rw [ho.2 g (by simpa using hl) h.ga h.gb, List.getElem?_set_self hl]
end TK

set_option Elab.async false
set_option linter.all false
set_option maxRecDepth 100000
set_option maxHeartbeats 4000000
namespace TK
open PySem PySem.Spec
open PyProof.Rows hiding St
open L2
variable {st : Store} {a b g n N : Nat} {k : Int} {S : List Stt} {c : Stt}
theorem sBehPut {rs : List Rw} {r : Rw} : beh (rs, []) (.put rs.length r) = (rs ++ [r], []) := by simp [beh]
theorem archive_make (h1 : 1 ≤ N) (h12 : N ≤ 12) {fr : LF} {env : AEnv} (hf : fr env st = .ok [.int N] st) : eMake "Archive" m_Archive__init fr env st = .ok (.ref st.length) (st ++ [arO (pairD (st.length + 1) []) (st.length + 2), logO N [], .lst []]) := by
  have a1 : (1 : Int) ≤ N := by omega
  have a2 : (N : Int) ≤ 12 := by omega
  have cn : m_check_number [.int N, .int 1, .int 12] (st ++ [.ins "Archive" []]) = .ok .non (st ++ [.ins "Archive" []]) := by simp [m_check_number_eq, is_within_ok, a1, a2]
  have mk : eMake "Log" m_Log__init (lCons (eVar 1) (lCons (eTup lNil) lNil)) [some (.ref st.length), some (.int N)] (st ++ [.ins "Archive" []]) = .ok (.ref (st.length + 1)) (st ++ [.ins "Archive" [], logO N []]) := by
    have := log_make (st := st ++ [.ins "Archive" []]) (N := N) (rs := []) (fr := lCons (eVar 1) (lCons (eTup lNil) lNil)) (env := [some (.ref st.length), some (.int N)]) (by simp) h1 h12 (by simp) (by simp)
    simpa using this
  have z2 : 2 ≤ sizeLine := szl (by omega)
  have hne : ¬ (Str.ofString "pair") = (Str.ofString "past") := by decide +kernel
  have ini : m_Archive__init [.ref st.length, .int N] (st ++ [.ins "Archive" []]) = .ok .non (st ++ [arO (pairD (st.length + 1) []) (st.length + 2), logO N [], .lst []]) := by
    rw [m_Archive__init_eq]
    simp [cn, mk, okIf_pos z2, putFD, hne, arO, pairD]
  unfold eMake
  rw [hf, R.bind_ok, ini]
  unfold mkR gcR
  simp [trim_app, closed, arO, closedO, closedF, pairD, closeds]
/-- all of an elder store stands -/
def Old (st0 st : Store) : Prop := st0.length ≤ st.length ∧ ∀ i, i < st0.length → st[i]? = st0[i]?
theorem Old.refl {st : Store} : Old st st := ⟨Nat.le_refl _, fun _ _ => rfl⟩
theorem Old.app {st0 : Store} (h : Old st0 st) (x : Store) : Old st0 (st ++ x) := ⟨by have := h.1; simp; omega, fun i hi => by rw [List.getElem?_append_left (Nat.lt_of_lt_of_le hi h.1)]; exact h.2 i hi⟩
theorem Old.oth {st0 st' : Store} (h : Old st0 st) (o : Oth a b st st') (ha : st0.length ≤ a) (hb : st0.length ≤ b) : Old st0 st' := ⟨Nat.le_trans h.1 o.1, fun i hi => by rw [o.2 i (Nat.lt_of_lt_of_le hi h.1) (by omega) (by omega)]; exact h.2 i hi⟩
/-- a deed of an archive, called as a method -/
theorem put_m {i : Nat} {r : Rw} (h : Arch a b N st S c) (hs : SOk N c) (hN1 : 1 ≤ N) (hN : N ≤ 12) (hS : S.length ≤ 10000) (hd : deedOk N c (.put i r)) :
    ∃ st', selfR "Archive" "put" (.ref a) st = .ok (.ref a) st ∧ gcH st (m_Archive__m_put [.ref a, .int i, rwD r] st) = .ok .non st' ∧ Arch a b N st' (S ++ [c]) (beh c (.put i r)) ∧ Oth a b st st' := by
  obtain ⟨s1, e1, A1, O1⟩ := put_ok h hs hN1 hN hS hd
  obtain ⟨s2, e2, A2, O2⟩ := gcA (d := .non) h A1 O1 rfl
  obtain ⟨l, ps, a1, _⟩ := h.ex
  exact ⟨s2, self_ok a1 (by decide +kernel) (by decide +kernel), by rw [e1, e2], A2, O2⟩
theorem strike_m {i : Nat} (h : Arch a b N st S c) (hs : SOk N c) (hN1 : 1 ≤ N) (hN : N ≤ 12) (hS : S.length ≤ 10000) (hd : deedOk N c (.strike i)) :
    ∃ st', selfR "Archive" "strike" (.ref a) st = .ok (.ref a) st ∧ gcH st (m_Archive__m_strike [.ref a, .int i] st) = .ok .non st' ∧ Arch a b N st' (S ++ [c]) (beh c (.strike i)) ∧ Oth a b st st' := by
  obtain ⟨s1, e1, A1, O1⟩ := strike_ok h hs hN1 hN hS hd
  obtain ⟨s2, e2, A2, O2⟩ := gcA (d := .non) h A1 O1 rfl
  obtain ⟨l, ps, a1, _⟩ := h.ex
  exact ⟨s2, self_ok a1 (by decide +kernel) (by decide +kernel), by rw [e1, e2], A2, O2⟩
theorem show_m {f : Fd} (h : Arch a b N st S c) (hs : SOk N c) (hS : S.length ≤ 10000) (hd : deedOk N c (.sho f)) :
    ∃ st', selfR "Archive" "show" (.ref a) st = .ok (.ref a) st ∧ gcH st (m_Archive__m_show [.ref a, fdD f] st) = .ok .non st' ∧ Arch a b N st' (S ++ [c]) (beh c (.sho f)) ∧ Oth a b st st' := by
  obtain ⟨s1, e1, A1, O1⟩ := show_ok h hs hS hd
  obtain ⟨s2, e2, A2, O2⟩ := gcA (d := .non) h A1 O1 rfl
  obtain ⟨l, ps, a1, _⟩ := h.ex
  exact ⟨s2, self_ok a1 (by decide +kernel) (by decide +kernel), by rw [e1, e2], A2, O2⟩
theorem back_m {c' : Stt} (h : Arch a b N st (S ++ [c']) c) : ∃ st', selfR "Archive" "back" (.ref a) st = .ok (.ref a) st ∧ gcH st (m_Archive__m_back [.ref a] st) = .ok .non st' ∧ Arch a b N st' S c' ∧ Oth a b st st' := by
  obtain ⟨s1, e1, A1, O1⟩ := back_ok h
  obtain ⟨s2, e2, A2, O2⟩ := gcA (d := .non) h A1 O1 rfl
  obtain ⟨l, ps, a1, _⟩ := h.ex
  exact ⟨s2, self_ok a1 (by decide +kernel) (by decide +kernel), by rw [e1, e2], A2, O2⟩
theorem now_m (h : Arch a b N st S c) : ∃ l, selfR "Archive" "now" (.ref a) st = .ok (.ref a) st ∧ gcH st (m_Archive__m_now [.ref a] st) = .ok (pairD l c.2) st ∧ st[l]? = some (logO N c.1) := by
  obtain ⟨l, ps, a1, b1, l1, _⟩ := h.ex
  refine ⟨l, self_ok a1 (by decide +kernel) (by decide +kernel), ?_, l1⟩
  rw [now_ok a1]
  exact gcR_same (by simp [pairD, closed, closeds, fds_closed, (List.getElem?_eq_some_iff.mp l1).1])
theorem pr_ok {l p : Nat} {r : Bool} {rs : List Rw} {fs : List Fd} (h1 : st[l]? = some (logO N rs)) (h2 : st[p]? = some (logO N rs)) (hl : rs.length ≤ 1000) : prP "Log" m_Log__same r (pairD l fs) (.tup [.ref p, .tup (fs.map fdD)]) st = .ok (.bl r) st := by
  unfold prP
  rw [if_pos]
  refine ⟨l, p, .tup (fs.map fdD), _, _, rfl, rfl, h1, h2, ?_, fs.map fun f => [(f.m : Int), f.o, f.e], ?_⟩
  · rw [log_eq_ok h1 h2 hl]
    have := gcR_bl (st := st) true
    unfold gcH at this
    rw [hid_eq] at this
    exact this
  · rw [List.map_map]
    congr 1
theorem pD0 (l : Nat) (fs : List Fd) : getD (pairD l fs) (.int 0) st = .ok (.ref l) st := getD_at (k := 0) rfl
theorem SOk.pre {rs : List Rw} {fs : List Fd} (h : SOk N (rs, fs)) (i : Nat) : SOk N (rs.take i, []) := ⟨fun r hr => h.r r (List.mem_of_mem_take hr), by have := h.l; simp at this ⊢; omega, by simp, by simp⟩
theorem SOk.pre2 {rs : List Rw} {fs : List Fd} (h : SOk N (rs, fs)) (i : Nat) : SOk N (rs, fs.take i) := ⟨h.r, h.l, fun r hr => h.f r (List.mem_of_mem_take hr), by have := h.k; simp at this ⊢; omega⟩
theorem filled_ok {rs : List Rw} {fs : List Fd} (hs : SOk N (rs, fs)) (hN1 : 1 ≤ N) (hN : N ≤ 12) (hr9 : rs.length ≤ 50) : ∃ a b st' S, gcH st (m__law_filled [.int N, .tup (rs.map rwD), .tup (fs.map fdD)] st) = .ok (.ref a) st' ∧ Arch a b N st' S (rs, fs) ∧ S.length = rs.length + fs.length ∧ st.length ≤ a ∧ st.length ≤ b ∧ Old st st' := by
  have mk := archive_make (st := st) hN1 hN (fr := lCons (eVar 0) lNil) (env := [some (.int N), some (.tup (rs.map rwD)), some (.tup (fs.map fdD)), none, none, none]) (by simp)
  have A0 : Arch st.length (st.length + 2) N (st ++ [arO (pairD (st.length + 1) []) (st.length + 2), logO N [], .lst []]) [] ([], []) := by
    refine ⟨by omega, st.length + 1, [], ?_, ?_, ?_, trivial⟩
    · rw [List.getElem?_append_right (by omega)]; simp
    · rw [List.getElem?_append_right (by omega), show st.length + 2 - st.length = 2 from by omega]; rfl
    · rw [List.getElem?_append_right (by omega), show st.length + 1 - st.length = 1 from by omega]; rfl
  have O0 : Old st (st ++ [arO (pairD (st.length + 1) []) (st.length + 2), logO N [], .lst []]) := Old.refl.app _
  have main : ∃ st' S, m__law_filled [.int N, .tup (rs.map rwD), .tup (fs.map fdD)] st = .ok (.ref st.length) st' ∧ Arch st.length (st.length + 2) N st' S (rs, fs) ∧ S.length = rs.length + fs.length ∧ Old st st' := by
    rw [m__law_filled_eq]
    simp [mk]
    generalize st ++ [arO (pairD (st.length + 1) []) (st.length + 2), logO N [], .lst []] = s0 at *
    generalize hq : loopF _ _ _ _ _ _ = r
    obtain ⟨e, s1, rfl, o4, S1, rfl, A1, l1, O1⟩ := loopF_next hq (fun i env s => ∃ o4 S, env = [some (.int N), some (.tup (rs.map rwD)), some (.tup (fs.map fdD)), some (.ref st.length), o4, none] ∧ Arch st.length (st.length + 2) N s S (rs.take i, []) ∧ S.length = i ∧ Old st s) ⟨none, [], rfl, by simpa using A0, rfl, O0⟩ fun i d env s hI hd => by
      obtain ⟨o4, S, rfl, hI, hS, hO⟩ := hI
      rw [List.getElem?_map] at hd
      cases hri : rs[i]? with
      | none => rw [hri] at hd; cases hd
      | some r =>
        rw [hri] at hd
        cases hd
        have hil : i < rs.length := (List.getElem?_eq_some_iff.mp hri).1
        have et : rs.take (i + 1) = rs.take i ++ [r] := by rw [List.take_add_one, hri]; rfl
        obtain ⟨l, sf, nw, hl⟩ := now_m hI
        have hl' : s[l]? = some (.ins "Log" [("offices", .int N), ("rows", .tup ((rs.take i).map rwD))]) := hl
        have hti : (rs.take i).length = i := by simp; omega
        obtain ⟨s2, sp, ep, A2, O2⟩ := put_m (i := (rs.take i).length) (r := r) hI (hs.pre i) hN1 hN (by omega) ⟨Nat.le_refl _, hs.r r (List.mem_of_getElem? hri), by rw [hti]; omega⟩
        rw [sBehPut, ← et] at A2
        rw [hti] at ep
        refine ⟨_, asgT_name _ _ _, [some (.int N), some (.tup (rs.map rwD)), some (.tup (fs.map fdD)), some (.ref st.length), some (rwD r), none], s2, .inl ?_, by simp, _, S ++ [(rs.take i, [])], rfl, A2, by simp [hS], hO.oth O2 (by omega) (by omega)⟩
        have hm : min i rs.length = i := by omega
        simp [sp, sf, nw, pD0, hl', lkR, hm, ep]
    simp at l1 A1
    simp
    generalize hq : loopF _ _ _ _ _ _ = r
    obtain ⟨e, s2, rfl, o5, S2, rfl, A2, l2, O2⟩ := loopF_next hq (fun i env s => ∃ o5 S, env = [some (.int N), some (.tup (rs.map rwD)), some (.tup (fs.map fdD)), some (.ref st.length), o4, o5] ∧ Arch st.length (st.length + 2) N s S (rs, fs.take i) ∧ S.length = rs.length + i ∧ Old st s) ⟨none, S1, rfl, by simpa using A1, by simpa using l1, O1⟩ fun i d env s hI hd => by
      obtain ⟨o4, S, rfl, hI, hS, hO⟩ := hI
      rw [List.getElem?_map] at hd
      cases hri : fs[i]? with
      | none => rw [hri] at hd; cases hd
      | some f =>
        rw [hri] at hd
        cases hd
        have hil : i < fs.length := (List.getElem?_eq_some_iff.mp hri).1
        have et : fs.take (i + 1) = fs.take i ++ [f] := by rw [List.take_add_one, hri]; rfl
        have hk := hs.k
        obtain ⟨s2, sp, ep, A2, O2⟩ := show_m (f := f) hI (hs.pre2 i) (by simp at hk; omega) ⟨hs.f f (List.mem_of_getElem? hri), by simp at hk ⊢; omega⟩
        have eb : beh (rs, fs.take i) (.sho f) = (rs, fs.take (i + 1)) := by rw [et]; rfl
        rw [eb] at A2
        refine ⟨_, asgT_name _ _ _, _, s2, .inl ?_, by simp, some (fdD f), S ++ [(rs, fs.take i)], rfl, A2, by simp [hS]; omega, hO.oth O2 (by omega) (by omega)⟩
        simp [sp, ep]
    simp at l2 A2
    exact ⟨s2, rfl, S2, A2, l2, O2⟩
  obtain ⟨s', S, e, A, l, O⟩ := main
  refine ⟨st.length, st.length + 2, s', S, ?_, A, l, Nat.le_refl _, by omega, O⟩
  obtain ⟨l', ps, a1, _⟩ := A.ex
  have ht : Trim st s' := fun i hi => .inl (O.2 i hi)
  rw [e]
  unfold gcH
  rw [hid_eq]
  unfold gcR
  simp [ht, closed, a1, arO, closedO, closedF]
  intro _ h3
  omega
end TK

set_option Elab.async false
set_option linter.all false
set_option maxRecDepth 100000
set_option maxHeartbeats 4000000
namespace TK
open PySem PySem.Spec
open PyProof.Rows hiding St
open L2
variable {st : Store} {a b g n N : Nat} {k : Int} {S : List Stt} {c : Stt} {rs : List Rw} {fs : List Fd} {ds : List Bool}
theorem led_pre {rs' : List Rw} {ds' : List Bool} : ∀ {i : Nat}, (∀ j, j < i → rs'[j]? = rs[j]? ∧ ds'[j]? = ds[j]?) → ledS N rs' ds' i = ledS N rs ds i
  | 0, _ => rfl
  | i + 1, h => by
    have ih := led_pre (i := i) (fun j hj => h j (by omega))
    obtain ⟨h1, h2⟩ := h i (by omega)
    unfold ledS
    rw [h1, h2, ih]
theorem ins_lo {α : Type} {xs : List α} {x : α} {i j : Nat} (hj : j < i) (hi : i ≤ xs.length) : (xs.take i ++ x :: xs.drop i)[j]? = xs[j]? := by
  rw [List.getElem?_append_left (by simp; omega), List.getElem?_take_of_lt hj]
theorem ins_at {α : Type} {xs : List α} {x : α} {i : Nat} (hi : i ≤ xs.length) : (xs.take i ++ x :: xs.drop i)[i]? = some x := by
  rw [List.getElem?_append_right (by rw [List.length_take]; omega)]
  have : i - (xs.take i).length = 0 := by rw [List.length_take]; omega
  rw [this]; rfl
theorem ins_hi {α : Type} {xs : List α} {x : α} {i j : Nat} (hi : i ≤ xs.length) : (xs.take i ++ x :: xs.drop i)[i + 1 + j]? = xs[i + j]? := by
  rw [List.getElem?_append_right (by simp; omega)]
  have : i + 1 + j - (xs.take i).length = j + 1 := by simp; omega
  rw [this, List.getElem?_cons_succ, List.getElem?_drop]
theorem led_lo {i m : Nat} {r : Rw} (hi : i ≤ rs.length) (hd : ds.length = rs.length) (hm : m ≤ i) : ledS N (rs.take i ++ r :: rs.drop i) (ds.take i ++ false :: ds.drop i) m = ledS N rs ds m :=
  led_pre fun j hj => ⟨ins_lo (by omega) hi, ins_lo (by omega) (by omega)⟩
theorem led_hi {i : Nat} {r : Rw} (hi : i ≤ rs.length) (hd : ds.length = rs.length) : ∀ j, ledS N (rs.take i ++ r :: rs.drop i) (ds.take i ++ false :: ds.drop i) (i + 1 + j) = ledS N rs ds (i + j)
  | 0 => by
    rw [Nat.add_zero, Nat.add_zero, ledS_suc (ins_at hi) (ins_at (by omega))]
    exact led_lo hi hd (Nat.le_refl _)
  | j + 1 => by
    have ih := led_hi (r := r) hi hd j
    rw [show i + 1 + (j + 1) = (i + 1 + j) + 1 from by omega, show i + (j + 1) = (i + j) + 1 from by omega]
    rw [ledS, ledS, ih, ins_hi hi, ins_hi (by omega)]
theorem led_fdU {i : Nat} {r : Rw} {f : Fd} (hi : i ≤ rs.length) (hd : ds.length = rs.length) : ledS N (rs.take i ++ r :: rs.drop i) (ds.take i ++ false :: ds.drop i) (fdU i f).m = ledS N rs ds f.m := by
  unfold fdU
  by_cases e : i + 1 ≤ f.m
  · rw [if_pos e]
    have := led_hi (r := r) hi hd (f.m - i) (N := N)
    rw [show i + 1 + (f.m - i) = f.m + 1 from by omega, show i + (f.m - i) = f.m from by omega] at this
    exact this
  · rw [if_neg e]
    exact led_lo hi hd (by omega)
theorem doOk_ins {r : Rw} (hr : r.f = false) : ∀ {i : Nat} {rs : List Rw} {ds : List Bool}, doOk rs ds → doOk (rs.take i ++ r :: rs.drop i) (ds.take i ++ false :: ds.drop i)
  | 0, rs, ds, h => by simp [doOk, hr, h]
  | i + 1, [], [], h => by simp [doOk, hr]
  | i + 1, r' :: rs, d :: ds, h => ⟨h.1, doOk_ins hr h.2⟩
  | i + 1, [], _ :: _, h => h.elim
  | i + 1, _ :: _, [], h => h.elim
theorem fdWU (i : Nat) (f : Fd) : fdW i (fdU i f) = f := by
  unfold fdU
  by_cases e : i + 1 ≤ f.m
  · rw [if_pos e]
    unfold fdW
    rw [if_pos (by simp; omega)]
    cases f; simp
  · rw [if_neg e]
    unfold fdW
    rw [if_neg e]
theorem beh_undo {i : Nat} {r : Rw} (hi : i ≤ rs.length) : beh (beh (rs, fs) (.put i r)) (.strike i) = (rs, fs) := by
  have h1 : (rs.take i).length = i := by simp; omega
  have e1 : (rs.take i ++ r :: rs.drop i).take i = rs.take i := by rw [List.take_append_of_le_length (by omega), List.take_of_length_le (by omega)]
  have e2 : (rs.take i ++ r :: rs.drop i).drop (i + 1) = rs.drop i := by
    rw [List.drop_append, h1, List.drop_of_length_le (by omega)]
    have : i + 1 - i = 1 := by omega
    rw [this]; simp
  have e3 : (fs.map (fdU i)).map (fdW i) = fs := by
    rw [List.map_map]
    have : fdW i ∘ fdU i = id := by funext f; exact fdWU i f
    rw [this, List.map_id]
  simp only [beh, e1, e2, e3, List.take_append_drop]
theorem all_raw {p : Nat} (h : st[p]? = some (logO N rs)) (hN : N ≤ 12) (hM : rs.length ≤ 1000) (hrs : ∀ r ∈ rs, RwOk N r) (hd : doOk rs ds) :
    m_all_sheets [.ref p, .tup (ds.map D.bl)] st = .ok (.ref st.length) (st ++ [.lst (ledL N rs ds (rs.length + 1))]) := by
  have hl : lDrop (eCall m_led (lCons (eVar 0) (lCons (eVar 1) lNil))) [some (.ref p), some (.tup (ds.map D.bl))] st = .ok (ledL N rs ds (rs.length + 1)) st :=
    lDrop_call (as := [.ref p, .tup (ds.map D.bl)]) (X := [.lst (ledL N rs ds (rs.length + 1))]) (by simp) (led_ok h hN hM hrs hd) (Nat.le_refl _) (by simp) (ledL_closed _ _)
  simp [m_all_sheets_eq, check_doing_ok h hM hd, hl]
/-- all sheets of a log that is made for it -/
theorem all_new {fr : LF} {env : AEnv} (hfr : fr env st = .ok [.ref st.length, .tup (ds.map D.bl)] (st ++ [logO N rs])) (hN : N ≤ 12) (hM : rs.length ≤ 1000) (hrs : ∀ r ∈ rs, RwOk N r) (hd : doOk rs ds) :
    lDrop (eCall m_all_sheets fr) env st = .ok (ledL N rs ds (rs.length + 1)) st := by
  have e : eCall m_all_sheets fr env st = .ok (.ref (st.length + 1)) (st ++ [logO N rs, .lst (ledL N rs ds (rs.length + 1))]) := by
    rw [eCall_ap, hfr, R.bind_ok, all_raw (by simp) hN hM hrs hd]
    have := gcR_new (ds := ledL N rs ds (rs.length + 1)) (st := st ++ [logO N rs]) [.lst (ledL N rs ds (rs.length + 1))] [] (ledL_closed _ _) (st ++ [logO N rs]).length (by simp) (Nat.le_refl _)
    simpa using this
  refine lDrop_gen (ds := ledL N rs ds (rs.length + 1)) e (by omega) ?_ (ledL_closed _ _)
  rw [List.getElem?_append_right (by omega)]
  simp
theorem put_right_ok {i : Nat} {r : Rw} (h : Arch a b N st S (rs, fs)) (hs : SOk N (rs, fs)) (hN1 : 1 ≤ N) (hN : N ≤ 12) (hS : S.length ≤ 9000) (hi : i ≤ rs.length) (hr : RwOk N r) (hf : r.f = false) (h50 : rs.length ≤ 50) (hd : doOk rs ds) :
    ∃ st', gcH st (m__law_put_right [.ref a, .int N, .tup (rs.map rwD), .tup (fs.map fdD), .int i, rwD r, .tup (ds.map D.bl)] st) = .ok (.bl true) st' ∧ Arch a b N st' S (rs, fs) ∧ Oth a b st st' := by
  obtain ⟨s1, sp, ep, A1, O1⟩ := put_m (i := i) (r := r) h hs hN1 hN (by omega) ⟨hi, hr, by simp; omega⟩
  have hs1 := beh_ok hs (d := .put i r) ⟨hi, hr, by simp; omega⟩
  obtain ⟨l, sf, nw, hl⟩ := now_m A1
  have dl := doOk_len hd
  have eb : beh (rs, fs) (.put i r) = (rs.take i ++ r :: rs.drop i, fs.map (fdU i)) := rfl
  have hlen1 : (rs.take i ++ r :: rs.drop i).length = rs.length + 1 := by simp; omega
  rw [eb] at nw hl hs1
  have hl' : s1[l]? = some (.ins "Log" [("offices", .int N), ("rows", .tup ((rs.take i ++ r :: rs.drop i).map rwD))]) := hl
  have c1 := cut_hi (rs.map rwD) i
  have c2 := cut_lo (rs.map rwD) i
  have d1 := cut_hi (ds.map D.bl) i
  have d2 := cut_lo (ds.map D.bl) i
  have z1 : 1 ≤ sizeLine := szl (by omega)
  have z2 : 2 ≤ sizeLine := szl (by omega)
  have y2 : min i rs.length + 1 ≤ sizeLine := szl (by omega)
  have y3 : min i rs.length + 1 + (rs.length - i) ≤ sizeLine := szl (by omega)
  have y4 : min i ds.length + 1 ≤ sizeLine := szl (by omega)
  have y5 : min i ds.length + 1 + (ds.length - i) ≤ sizeLine := szl (by omega)
  have zc : fs.length ≤ sizeLine := szl (by have := hs.k; simp at this; omega)
  have n1 : ∀ s, neD (.tup ((fs.map (fdU i)).map fdD)) (.tup ((fs.map (fdU i)).map fdD)) s = .ok (.bl false) s := fun s => neD_refl (fds_plain (by have := hs.k; simp at this; simp; omega) 57) (by omega)
  have n2 : ∀ s, neD (.tup ((rs.take i ++ r :: rs.drop i).map rwD)) (.tup ((rs.take i ++ r :: rs.drop i).map rwD)) s = .ok (.bl false) s := fun s => neD_refl (rows_plain (by rw [hlen1]; omega) 57) (by omega)
  have al : ∀ o10 o11, lDrop (eCall m_all_sheets (lCons (eMake "Log" m_Log__init (lCons (eVar 1) (lCons (eVar 2) lNil))) (lCons (eVar 6) lNil))) [some (.ref a), some (.int N), some (.tup (rs.map rwD)), some (.tup (fs.map fdD)), some (.int i), some (rwD r), some (.tup (ds.map D.bl)), none, none, none, o10, o11, none] s1 = .ok (ledL N rs ds (rs.length + 1)) s1 := fun o10 o11 => by
    refine all_new ?_ hN (by omega) hs.r hd
    have mk := log_make (st := s1) (N := N) (rs := rs) (fr := lCons (eVar 1) (lCons (eVar 2) lNil)) (env := [some (.ref a), some (.int N), some (.tup (rs.map rwD)), some (.tup (fs.map fdD)), some (.int i), some (rwD r), some (.tup (ds.map D.bl)), none, none, none, o10, o11, none]) (by simp) hN1 hN (by omega) hs.r
    simp [mk]
  have main : ∃ st', m__law_put_right [.ref a, .int N, .tup (rs.map rwD), .tup (fs.map fdD), .int i, rwD r, .tup (ds.map D.bl)] st = .ok (.bl true) st' ∧ Arch a b N st' S (rs, fs) ∧ Oth a b st st' := by
    rw [m__law_put_right_eq]
    have ePD : pairD l (fs.map (fdU i)) = .tup [.ref l, .tup ((fs.map (fdU i)).map fdD)] := rfl
    rw [ePD] at nw
    simp [-List.map_map, -List.map_append, sp, ep, sf, nw, zc]
    generalize hq : compL _ _ _ _ _ _ _ = r1
    have := compL_mapE hq (by simp) (fun _ => true) (upD i) fun d hd => by
      obtain ⟨f, _, rfl⟩ := List.mem_map.mp hd
      exact ⟨_, asgT_name _ _ _, rfl, fun _ => by simp [lmv_up, upD_fd, gcR_fd]⟩
    rw [this, map_true, up_map]
    have em : (rs.map rwD).take i ++ rwD r :: (rs.map rwD).drop i = (rs.take i ++ r :: rs.drop i).map rwD := by rw [List.map_append, List.map_cons, List.map_take, List.map_drop]
    have ed : (ds.map D.bl).take i ++ D.bl false :: (ds.map D.bl).drop i = (ds.take i ++ false :: ds.drop i).map D.bl := by rw [List.map_append, List.map_cons, List.map_take, List.map_drop]
    simp [-List.map_map, -List.map_append, zc, n1, hl', lkR, c1, c2, okIf_pos z1, okIf_pos y2, okIf_pos y3, em, n2, al]
    have O2 : Oth a b st (s1 ++ [AO.lst (ledL N rs ds (rs.length + 1))]) := O1.trans (Oth.app _)
    have A2 := A1.app [AO.lst (ledL N rs ds (rs.length + 1))]
    have q1 : (s1 ++ [AO.lst (ledL N rs ds (rs.length + 1))])[s1.length]? = some (.lst (ledL N rs ds (rs.length + 1))) := by simp
    have hl2 : (s1 ++ [AO.lst (ledL N rs ds (rs.length + 1))])[l]? = some (logO N (rs.take i ++ r :: rs.drop i)) := by rw [List.getElem?_append_left (List.getElem?_eq_some_iff.mp hl).1]; exact hl
    generalize s1 ++ [AO.lst (ledL N rs ds (rs.length + 1))] = s2 at *
    generalize s1.length = p1 at *
    have hrI := hs1.r
    have doI := doOk_ins hf (i := i) hd
    have al2 := all_sheets_ok (st := s2) (p := l) (N := N) (rs := rs.take i ++ r :: rs.drop i) (fs := ds.take i ++ false :: ds.drop i)
      (fr := lCons (eVar 10) (lCons (e2 addD (e2 addD (eSl (eVar 6) oNone (oSome (eVar 4))) (eTup (lCons (eC (.bl false)) lNil))) (eSl (eVar 6) (oSome (eVar 4)) oNone)) lNil))
      (env := [some (.ref a), some (.int N), some (.tup (rs.map rwD)), some (.tup (fs.map fdD)), some (.int i), some (rwD r), some (.tup (ds.map D.bl)), some (.ref p1), none, none, some (.ref l), some (.tup ((fs.map (fdU i)).map fdD)), none])
      (by simp [-List.map_map, -List.map_append, d1, d2, okIf_pos z1, okIf_pos y4, okIf_pos y5, ed]) hl2 hN (by rw [hlen1]; omega) hrI doI
    rw [hlen1] at al2
    simp [-List.map_map, -List.map_append, al2]
    have O3 : Oth a b st (s2 ++ [AO.lst (ledL N (rs.take i ++ r :: rs.drop i) (ds.take i ++ false :: ds.drop i) (rs.length + 1 + 1))]) := O2.trans (Oth.app _)
    have A3 := A2.app [AO.lst (ledL N (rs.take i ++ r :: rs.drop i) (ds.take i ++ false :: ds.drop i) (rs.length + 1 + 1))]
    have q2 : (s2 ++ [AO.lst (ledL N (rs.take i ++ r :: rs.drop i) (ds.take i ++ false :: ds.drop i) (rs.length + 1 + 1))])[p1]? = some (.lst (ledL N rs ds (rs.length + 1))) := by rw [List.getElem?_append_left (List.getElem?_eq_some_iff.mp q1).1]; exact q1
    have q3 : (s2 ++ [AO.lst (ledL N (rs.take i ++ r :: rs.drop i) (ds.take i ++ false :: ds.drop i) (rs.length + 1 + 1))])[s2.length]? = some (.lst (ledL N (rs.take i ++ r :: rs.drop i) (ds.take i ++ false :: ds.drop i) (rs.length + 1 + 1))) := by simp
    generalize s2 ++ [AO.lst (ledL N (rs.take i ++ r :: rs.drop i) (ds.take i ++ false :: ds.drop i) (rs.length + 1 + 1))] = s3 at *
    generalize s2.length = p2 at *
    have rg : ∀ s, rngR1 (fs.length : Int) s = .ok (rangeD 0 fs.length, []) s := fun s => rngR_nat (by have := hs.k; simp at this; omega)
    simp [-List.map_map, -List.map_append, rg]
    generalize hq2 : loopF _ _ _ _ _ _ = r2
    obtain ⟨e9, s9, rfl, o9, rfl, rfl⟩ := loopF_next hq2 (fun j env s => ∃ o9, env = [some (.ref a), some (.int N), some (.tup (rs.map rwD)), some (.tup (fs.map fdD)), some (.int i), some (rwD r), some (.tup (ds.map D.bl)), some (.ref p1), some (.ref p2), o9, some (.ref l), some (.tup ((fs.map (fdU i)).map fdD)), none] ∧ s = s3) ⟨none, rfl, rfl⟩ fun j d env s hI hd9 => by
      obtain ⟨o9, rfl, rfl⟩ := hI
      obtain ⟨rfl, hj⟩ := rangeD_get' hd9
      have g1 : getD (.tup (fs.map fdD)) (.int j) s = .ok (fdD fs[j]) s := getD_at (by rw [List.getElem?_map, List.getElem?_eq_getElem hj]; rfl)
      have g2 : getD (.tup ((fs.map (fdU i)).map fdD)) (.int j) s = .ok (fdD (fdU i fs[j])) s := getD_at (by rw [List.getElem?_map, List.getElem?_map, List.getElem?_eq_getElem hj]; rfl)
      obtain ⟨hf1, hf2, hf3⟩ := hs.f fs[j] (List.getElem_mem hj)
      obtain ⟨hu1, hu2, hu3⟩ := hs1.f (fdU i fs[j]) (List.mem_map.mpr ⟨_, List.getElem_mem hj, rfl⟩)
      simp only at hu1
      rw [hlen1] at hu1
      have g3 : getD (.ref p1) (.int fs[j].m) s = .ok (ledD N rs ds fs[j].m) s := getD_r q2 rfl (ledL_at (by simp at hf1; omega))
      have g4 : getD (.ref p2) (.int (fdU i fs[j]).m) s = .ok (ledD N (rs.take i ++ r :: rs.drop i) (ds.take i ++ false :: ds.drop i) (fdU i fs[j]).m) s := getD_r q3 rfl (ledL_at (by omega))
      have g5 : neD (ledD N rs ds fs[j].m) (ledD N (rs.take i ++ r :: rs.drop i) (ds.take i ++ false :: ds.drop i) (fdU i fs[j]).m) s = .ok (.bl false) s := by
        unfold ledD
        rw [neD_ints, led_fdU hi dl]
        simp
      have g6 : fs[j].m ≤ i ↔ (fdU i fs[j]).m ≤ i := by
        unfold fdU
        by_cases e : i + 1 ≤ fs[j].m
        · rw [if_pos e]
          constructor
          · intro h; omega
          · intro h; simp at h; omega
        · rw [if_neg e]
      refine ⟨_, asgT_name _ _ _, _, s, .inl ?_, by simp, some (.int j), rfl, rfl⟩
      simp [-List.map_map, -List.map_append, g1, g2, fd0, g3, g4, g5]
      exact g6
    obtain ⟨s4, st4, e4, A4, O4⟩ := strike_m (i := i) A3 hs1 hN1 hN (by simp; omega) (by show i < (rs.take i ++ r :: rs.drop i).length; rw [hlen1]; omega)
    rw [beh_undo hi] at A4
    obtain ⟨l4, sf4, nw4, hl4⟩ := now_m A4
    have mk4 := log_make (st := s4) (N := N) (rs := rs) (fr := lCons (eVar 1) (lCons (eVar 2) lNil)) (env := [some (.ref a), some (.int N), some (.tup (rs.map rwD)), some (.tup (fs.map fdD)), some (.int i), some (rwD r), some (.tup (ds.map D.bl)), some (.ref p1), some (.ref p2), o9, some (.ref l), some (.tup ((fs.map (fdU i)).map fdD)), none]) (by simp) hN1 hN (by omega) hs.r
    have A5 := A4.app [logO N rs]
    have O5 : Oth a b s4 (s4 ++ [logO N rs]) := Oth.app _
    have pr4 := pr_ok (r := false) (st := s4 ++ [logO N rs]) (l := l4) (p := s4.length) (fs := fs) (rs := rs) (N := N) (by rw [List.getElem?_append_left (List.getElem?_eq_some_iff.mp hl4).1]; exact hl4) (by simp) (by omega)
    simp only at nw4
    simp [-List.map_map, -List.map_append, st4, e4, sf4, nw4, mk4, okIf_pos z2, pr4]
    generalize s4 ++ [logO N rs] = s5 at *
    obtain ⟨s6, sb6, e6, A6, O6⟩ := back_m A5
    obtain ⟨s7, sb7, e7, A7, O7⟩ := back_m A6
    obtain ⟨l7, sf7, nw7, hl7⟩ := now_m A7
    have mk7 := log_make (st := s7) (N := N) (rs := rs) (fr := lCons (eVar 1) (lCons (eVar 2) lNil)) (env := [some (.ref a), some (.int N), some (.tup (rs.map rwD)), some (.tup (fs.map fdD)), some (.int i), some (rwD r), some (.tup (ds.map D.bl)), some (.ref p1), some (.ref p2), o9, some (.ref l), some (.tup ((fs.map (fdU i)).map fdD)), none]) (by simp) hN1 hN (by omega) hs.r
    have pr7 := pr_ok (r := true) (st := s7 ++ [logO N rs]) (l := l7) (p := s7.length) (fs := fs) (rs := rs) (N := N) (by rw [List.getElem?_append_left (List.getElem?_eq_some_iff.mp hl7).1]; exact hl7) (by simp) (by omega)
    simp only at nw7
    refine ⟨s7 ++ [logO N rs], ?_, A7.app _, ((((O3.trans O4).trans O5).trans O6).trans O7).trans (Oth.app _)⟩
    simp [-List.map_map, -List.map_append, sb6, e6, sb7, e7, sf7, nw7, mk7, okIf_pos z2, pr7]
  obtain ⟨s', e, A, O⟩ := main
  rw [e]
  exact gcA h A O rfl
end TK

set_option Elab.async false
set_option linter.all false
set_option maxRecDepth 100000
set_option maxHeartbeats 4000000
namespace TK
open PySem PySem.Spec
open PyProof.Rows hiding St
open L2
variable {st : Store} {a b g n N : Nat} {k : Int} {S : List Stt} {c : Stt} {rs : List Rw} {fs : List Fd} {ds : List Bool}
structure PI (a b N : Nat) (k : Int) (st : Store) (S : List Stt) (c : Stt) : Prop where
  di : Dice 2 k st
  ar : Arch a b N st S c
  a2 : 2 < a
  b2 : 2 < b
theorem PI.same {k' : Int} {st' : Store} (h : PI a b N k st S c) (d : Dice 2 k' st') (s : SameBut 2 st st') : PI a b N k' st' S c := by
  obtain ⟨cc, cells, x, y, m, e, h0, hn, hc, _⟩ := h.di
  have h2 : st[2]? = some (.lst [.ref cc, .int x, .int y, .int m, .int e]) := by rw [h0]; exact dS_at hn
  refine ⟨d, h.ar.keep (s.2 a (by have := h.a2; omega)) (s.2 b (by have := h.b2; omega)) fun i rs e => ?_, h.a2, h.b2⟩
  have : i ≠ 2 := fun q => by subst q; rw [h2] at e; exact logO_ne_lst (Option.some.inj e).symm
  rw [s.2 i this]; exact e
theorem PI.oth {st' : Store} {S' : List Stt} {c' : Stt} (h : PI a b N k st S c) (A : Arch a b N st' S' c') (o : Oth a b st st') : PI a b N k st' S' c' := by
  have h1 := h.a2
  have h2 := h.b2
  have h4 := h.di.lt
  exact ⟨h.di.of_le o.1 fun i hi => o.2 i (by omega) (by omega) (by omega), A, h1, h2⟩
theorem PI.mono {k' : Int} (h : PI a b N k st S c) (hk : k ≤ k') : PI a b N k' st S c := ⟨h.di.mono hk, h.ar, h.a2, h.b2⟩
theorem law_thm : ∀ ns : List Int, ns.length ≤ 63 → ∃ st', m_law [.ref 0] [.rol (ns.map D.int)] = .ok (.bl true) st' := by
  intro ns hn
  obtain ⟨cells, hpos, hdice⟩ := dice_ok ns (by omega)
  have D0 : Dice 2 0 [.rol (ns.map D.int), .lst (cells.map D.int), .lst [.ref 1, .int 0, .int 0, .int 1, .int 0]] :=
    ⟨1, cells, 0, 0, 1, 0, rfl, by simp, by omega, rfl, hpos, by omega, by omega, by omega, by omega, by omega, by omega⟩
  obtain ⟨z, st1, ho, ho1, ho7, D1, Q1⟩ := draw_ok (s := 6) D0 (by omega) (by omega) (by omega)
  obtain ⟨N, hN⟩ : ∃ Z : Nat, 2 + z = Z := ⟨(2 + z).toNat, by omega⟩
  obtain ⟨m, st2, hm, hm0, hm9, D2, Q2⟩ := draw_ok (s := 9) D1 (by omega) (by omega) (by omega)
  obtain ⟨M, rfl⟩ : ∃ M : Nat, m = M := ⟨m.toNat, by omega⟩
  obtain ⟨rows, st3, hr, hrd, hrl, D3, Q3⟩ := rows_ok (N := N) (M := M) D2 (by omega) (by omega) (by omega) (by omega)
  obtain ⟨rs, rfl, hrs⟩ := rowsD_rw hrd
  have hrl : rs.length ≤ 8 := by simp at hrl; omega
  obtain ⟨ds, st4, hds, hdo, D4, Q4⟩ := doing_ok (rs := rs) D3 (by omega) (by omega)
  have ld := law_led_drop (st := st4) (fr := lCons (eVar 2) (lCons (eVar 3) (lCons (eVar 4) lNil))) (env := [some (.ref 0), some (.ref 2), some (.int N), some (.tup (rs.map rwD)), some (.tup (ds.map D.bl)), none, none, none, none, none, none, none, none, none, none, none]) (N := N) (by simp) (by omega) (by omega) hrs (doOk_len hdo)
  have hr' : ∀ (s : Store), m__law_rows [.ref 2, .int (2 + z), .int M] s = m__law_rows [.ref 2, .int N, .int M] s := fun s => by rw [hN]
  have l4 : 2 < st4.length := D4.lt
  have D5 : Dice 2 100 (st4 ++ [AO.lst (ledL N rs ds (rs.length + 1))]) := (D4.app _).mono (by omega)
  have q5 : (st4 ++ [AO.lst (ledL N rs ds (rs.length + 1))])[st4.length]? = some (.lst (ledL N rs ds (rs.length + 1))) := by simp
  obtain ⟨t, s6, ht, t0, t1, D6, S6⟩ := draw_ok (s := 9) D5 (by omega) (by omega) (by omega)
  obtain ⟨T, rfl⟩ : ∃ T : Nat, t = T := ⟨t.toNat, by omega⟩
  have q6 : s6[st4.length]? = some (.lst (ledL N rs ds (rs.length + 1))) := by rw [S6.2 _ (by omega)]; exact q5
  have rg : ∀ s, rngR1 (T : Int) s = .ok (rangeD 0 T, []) s := fun s => rngR_nat (by omega)
  have z1 : 1 ≤ sizeLine := szl (by omega)
  have z2 : 2 ≤ sizeLine := szl (by omega)
  have z3 : 3 ≤ sizeLine := szl (by omega)
  have z8 : T ≤ sizeLine := szl (by omega)
  rw [m_law_eq]
  simp [-List.map_map, -List.map_append, hdice, ho, hN, hm, hr, hds, ld, ht, rg, okIf_pos z8]
  generalize st4.length = p5 at *
  generalize hq : compL _ _ _ _ _ _ _ = r1
  obtain ⟨ys, s7, rfl, fs, rfl, hfo, hfl, D7, S7⟩ := compL_ok hq (fun i acc s => ∃ fs : List Fd, acc = fs.map fdD ∧ (∀ f ∈ fs, FdOk N rs.length f) ∧ fs.length = i ∧ Dice 2 (101 + 4 * i) s ∧ SameBut 2 s6 s) ⟨[], rfl, by simp, rfl, by simpa using D6, .refl⟩ fun i d acc s hI hd => by
    obtain ⟨fs, rfl, hf, hl, hD, hS⟩ := hI
    obtain ⟨rfl, hi⟩ := rangeD_get' hd
    obtain ⟨f, s', ef, hfo, hD', hS'⟩ := find_ok (q := p5) (rs := rs) (fs := ds) hD (by omega) (by rw [hS.2 _ (by omega)]; exact q6) (by omega) hrs (by omega) (by omega) (by omega)
    refine ⟨_, asgT_name _ _ _, .inl ⟨fdD f, s, s', rfl, by simp [ef], by simp, fs ++ [f], by simp, ?_, by simp [hl], hD'.mono (by omega), hS.trans hS'⟩⟩
    intro x hx
    rcases List.mem_append.mp hx with q | q
    · exact hf x q
    · rw [List.mem_singleton.mp q]; exact hfo
  simp at hfl D7
  have hs : SOk N (rs, fs) := ⟨hrs, by show rs.length ≤ 60; omega, hfo, by show fs.length ≤ 40; omega⟩
  obtain ⟨a, b, s8, S, e8, A8, l8, a8, b8, O8⟩ := filled_ok (st := s7) hs (by omega) (by omega) (by omega)
  have l7 := D7.lt
  have P8 : PI a b N 200 s8 S (rs, fs) := ⟨(D7.of_le O8.1 fun i hi => O8.2 i (by omega)).mono (by omega), A8, by omega, by omega⟩
  have hs8 := hs
  -- the archive shows what was put in
  obtain ⟨l9, sf9, nw9, hl9⟩ := now_m A8
  have mk9 := log_make (st := s8) (N := N) (rs := rs) (fr := lCons (eVar 2) (lCons (eVar 3) lNil)) (env := [some (.ref 0), some (.ref 2), some (.int N), some (.tup (rs.map rwD)), some (.tup (ds.map D.bl)), some (.ref p5), some (.tup (fs.map fdD)), some (.ref a), none, none, none, none, none, none, none, none]) (by simp) (by omega) (by omega) (by omega) hrs
  have pr9 := pr_ok (r := false) (st := s8 ++ [logO N rs]) (l := l9) (p := s8.length) (fs := fs) (rs := rs) (N := N) (by rw [List.getElem?_append_left (List.getElem?_eq_some_iff.mp hl9).1]; exact hl9) (by simp) (by omega)
  have rg1 : ∀ s, rngR1 ((rs.length : Int) + 1) s = .ok (rangeD 0 (rs.length + 1), []) s := fun s => rngR_suc (by omega)
  have rgL : ∀ s, rngR1 (rs.length : Int) s = .ok (rangeD 0 rs.length, []) s := fun s => rngR_nat (by omega)
  simp only at nw9
  simp [-List.map_map, -List.map_append, e8, sf9, nw9, mk9, okIf_pos z2, pr9, rg1]
  have P9 : PI a b N 200 (s8 ++ [logO N rs]) S (rs, fs) := P8.oth (P8.ar.app _) (Oth.app _)
  generalize s8 ++ [logO N rs] = s9 at *
  generalize hq1 : loopF _ _ _ _ _ _ = r1
  obtain ⟨e1, s10, rfl, o8, o9, o10, o11, rfl, P10⟩ := loopF_next hq1 (fun i env s => ∃ o8 o9 o10 o11, env = [some (.ref 0), some (.ref 2), some (.int N), some (.tup (rs.map rwD)), some (.tup (ds.map D.bl)), some (.ref p5), some (.tup (fs.map fdD)), some (.ref a), o8, o9, o10, o11, none, none, none, none] ∧ PI a b N (200 + 3 * i) s S (rs, fs)) ⟨none, none, none, none, rfl, by simpa using P9⟩ fun i d env s hI hd => by
    obtain ⟨o8, o9, o10, o11, rfl, hP⟩ := hI
    obtain ⟨rfl, hi⟩ := rangeD_get' hd
    obtain ⟨d, s2, hrw, hR, hD2, hS2⟩ := row_ok (N := N) (share := 0) hP.di (by omega) (by omega) (by omega)
    obtain ⟨r, rfl, hrr⟩ := rowD_rw hR
    have hP2 := hP.same hD2 hS2
    obtain ⟨s3, e3, A3, O3⟩ := put_right_ok (i := i) (r := ⟨r.x, r.y, false⟩) (ds := ds) hP2.ar hs (by omega) (by omega) (by omega) (by omega) hrr rfl (by omega) hdo
    have er : rwD ⟨r.x, r.y, false⟩ = .tup [.int r.x, .int r.y, .bl false] := rfl
    rw [er] at e3
    refine ⟨_, asgT_name _ _ _, [some (.ref 0), some (.ref 2), some (.int N), some (.tup (rs.map rwD)), some (.tup (ds.map D.bl)), some (.ref p5), some (.tup (fs.map fdD)), some (.ref a), some (.int i), some (.int r.x), some (.int r.y), some (.bl r.f), none, none, none, none], s3, .inl ?_, by simp, _, _, _, _, rfl, (hP2.oth A3 O3).mono (by omega)⟩
    have et : rwD r = .tup [.int r.x, .int r.y, .bl r.f] := rfl
    rw [et] at hrw
    simp [-List.map_map, -List.map_append, hrw, okIf_pos z3, e3]
  simp [-List.map_map, -List.map_append, rgL]
  generalize hq2 : loopF _ _ _ _ _ _ = r2
  obtain ⟨e2, s11, rfl, o8', o12, o13, rfl, P11⟩ := loopF_next hq2 (fun i env s => ∃ o8 o12 o13, env = [some (.ref 0), some (.ref 2), some (.int N), some (.tup (rs.map rwD)), some (.tup (ds.map D.bl)), some (.ref p5), some (.tup (fs.map fdD)), some (.ref a), o8, o9, o10, o11, o12, o13, none, none] ∧ PI a b N 300 s S (rs, fs)) ⟨o8, none, none, rfl, P10.mono (by simp; omega)⟩ fun i d env s hI hd => by
    obtain ⟨o8, o12, o13, rfl, hP⟩ := hI
    obtain ⟨rfl, hi⟩ := rangeD_get' hd
    obtain ⟨s1, ss, es, A1, O1⟩ := strike_m (i := i) hP.ar hs (by omega) (by omega) (by omega) hi
    obtain ⟨l, sf, nw, hl⟩ := now_m A1
    have eb : beh (rs, fs) (.strike i) = (rs.take i ++ rs.drop (i + 1), fs.map (fdW i)) := rfl
    have ePD : pairD l (fs.map (fdW i)) = .tup [.ref l, .tup ((fs.map (fdW i)).map fdD)] := rfl
    rw [eb] at nw hl
    simp only at nw hl
    rw [ePD] at nw
    have hl' : s1[l]? = some (.ins "Log" [("offices", .int N), ("rows", .tup ((rs.take i ++ rs.drop (i + 1)).map rwD))]) := hl
    have c1 := cut_hi (rs.map rwD) i
    have c2 := cut_lo (rs.map rwD) (i + 1)
    have e1 : ((i + 1 : Nat) : Int) = (i : Int) + 1 := by omega
    rw [e1] at c2
    have y3 : min i rs.length + (rs.length - (i + 1)) ≤ sizeLine := szl (by omega)
    have zc : fs.length ≤ sizeLine := szl (by omega)
    have em : (rs.map rwD).take i ++ (rs.map rwD).drop (i + 1) = (rs.take i ++ rs.drop (i + 1)).map rwD := by rw [List.map_append, List.map_take, List.map_drop]
    have n1 : ∀ s, neD (.tup ((fs.map (fdW i)).map fdD)) (.tup ((fs.map (fdW i)).map fdD)) s = .ok (.bl false) s := fun s => neD_refl (fds_plain (by simp; omega) 57) (by omega)
    have n2 : ∀ s, neD (.tup ((rs.take i ++ rs.drop (i + 1)).map rwD)) (.tup ((rs.take i ++ rs.drop (i + 1)).map rwD)) s = .ok (.bl false) s := fun s => neD_refl (rows_plain (by simp; omega) 57) (by omega)
    obtain ⟨s2, sb, eb2, A2, O2⟩ := back_m A1
    obtain ⟨l2, sf2, nw2, hl2⟩ := now_m A2
    have mk := log_make (st := s2) (N := N) (rs := rs) (fr := lCons (eVar 2) (lCons (eVar 3) lNil)) (env := [some (.ref 0), some (.ref 2), some (.int N), some (.tup (rs.map rwD)), some (.tup (ds.map D.bl)), some (.ref p5), some (.tup (fs.map fdD)), some (.ref a), some (.int i), o9, o10, o11, some (.ref l), some (.tup ((fs.map (fdW i)).map fdD)), none, none]) (by simp) (by omega) (by omega) (by omega) hrs
    have pr := pr_ok (r := false) (st := s2 ++ [logO N rs]) (l := l2) (p := s2.length) (fs := fs) (rs := rs) (N := N) (by rw [List.getElem?_append_left (List.getElem?_eq_some_iff.mp hl2).1]; exact hl2) (by simp) (by omega)
    simp only at nw2
    refine ⟨_, asgT_name _ _ _, [some (.ref 0), some (.ref 2), some (.int N), some (.tup (rs.map rwD)), some (.tup (ds.map D.bl)), some (.ref p5), some (.tup (fs.map fdD)), some (.ref a), some (.int i), o9, o10, o11, some (.ref l), some (.tup ((fs.map (fdW i)).map fdD)), none, none], s2 ++ [logO N rs], .inl ?_, by simp, _, _, _, rfl, hP.oth (A2.app _) ((O1.trans O2).trans (Oth.app _))⟩
    simp [-List.map_map, -List.map_append, ss, es, sf, nw, hl', lkR, c1, c2, okIf_pos y3, em, n2, zc]
    generalize hq3 : compL _ _ _ _ _ _ _ = r3
    have := compL_mapE hq3 (by simp) (fun _ => true) (dnD i) fun d hd => by
      obtain ⟨f, _, rfl⟩ := List.mem_map.mp hd
      exact ⟨_, asgT_name _ _ _, rfl, fun _ => by simp [lmv_dn, dnD_fd, gcR_fd]⟩
    rw [this, map_true, dn_map]
    simp [-List.map_map, -List.map_append, zc, n1, sb, eb2, sf2, nw2, mk, okIf_pos z2, pr]
  obtain ⟨l, ps, a1, b1, _, p1⟩ := P11.ar.ex
  have stp := steps_ok a1 b1
  have sf := self_ok (m := "steps") a1 (by decide +kernel) (by decide +kernel)
  have hps : (ps.length : Int) = (rs.length : Int) + (fs.length : Int) := by have := p1.len; omega
  simp [-List.map_map, -List.map_append, sf, stp, hps]
end TK

set_option Elab.async false
set_option linter.all false
set_option maxRecDepth 100000
set_option maxHeartbeats 4000000
namespace TK
open PySem PySem.Spec
open PyProof.Rows hiding St
open L2
def tops (i : Nat) : Stmt := PySem.Challenge.pw_takenover_k84_whole_moments_that_are_shi.main.body.getD i (.Pass ⟨0, 0, 0, 0⟩)
abbrev s_is_integer : Stmt := tops 13
theorem sc_is_integer : FnScope ["thing"] ["thing"] (defScope s_is_integer) := ⟨rfl, rfl, rfl, by decide +kernel, rfl, by decide +kernel, by decide +kernel⟩
abbrev s_is_within : Stmt := tops 14
theorem sc_is_within : FnScope ["thing", "least", "most"] ["thing", "least", "most"] (defScope s_is_within) := ⟨rfl, rfl, rfl, by decide +kernel, rfl, by decide +kernel, by decide +kernel⟩
abbrev s_is_triple : Stmt := tops 15
theorem sc_is_triple : FnScope ["thing"] ["thing"] (defScope s_is_triple) := ⟨rfl, rfl, rfl, by decide +kernel, rfl, by decide +kernel, by decide +kernel⟩
abbrev s_is_flag : Stmt := tops 16
theorem sc_is_flag : FnScope ["thing"] ["thing"] (defScope s_is_flag) := ⟨rfl, rfl, rfl, by decide +kernel, rfl, by decide +kernel, by decide +kernel⟩
abbrev s_is_row : Stmt := tops 22
theorem sc_is_row : FnScope ["offices", "thing"] ["offices", "thing"] (defScope s_is_row) := ⟨rfl, rfl, rfl, by decide +kernel, rfl, by decide +kernel, by decide +kernel⟩
abbrev s_first_bad : Stmt := tops 23
theorem sc_first_bad : FnScope ["offices", "rows", "number", "row"] ["offices", "rows"] (defScope s_first_bad) := ⟨rfl, rfl, rfl, by decide +kernel, rfl, by decide +kernel, by decide +kernel⟩
abbrev s_Log__init : Stmt := inClass (tops 24) 0
theorem sc_Log__init : FnScope ["self", "offices", "rows", "wrong"] ["self", "offices", "rows"] (defScope s_Log__init) := ⟨rfl, rfl, rfl, by decide +kernel, rfl, by decide +kernel, by decide +kernel⟩
abbrev s_Log__same : Stmt := inClass (tops 24) 1
theorem sc_Log__same : FnScope ["self", "other"] ["self", "other"] (defScope s_Log__same) := ⟨rfl, rfl, rfl, by decide +kernel, rfl, by decide +kernel, by decide +kernel⟩
abbrev s_Archive__m_now : Stmt := inClass (tops 40) 6
theorem sc_Archive__m_now : FnScope ["self"] ["self"] (defScope s_Archive__m_now) := ⟨rfl, rfl, rfl, by decide +kernel, rfl, by decide +kernel, by decide +kernel⟩
abbrev s_check_row : Stmt := tops 19
theorem sc_check_row : FnScope ["log", "row"] ["log", "row"] (defScope s_check_row) := ⟨rfl, rfl, rfl, by decide +kernel, rfl, by decide +kernel, by decide +kernel⟩
abbrev s_raw_log : Stmt := tops 25
theorem sc_raw_log : FnScope ["offices", "rows", "log"] ["offices", "rows"] (defScope s_raw_log) := ⟨rfl, rfl, rfl, by decide +kernel, rfl, by decide +kernel, by decide +kernel⟩
abbrev s_without : Stmt := tops 33
theorem sc_without : FnScope ["log", "row"] ["log", "row"] (defScope s_without) := ⟨rfl, rfl, rfl, by decide +kernel, rfl, by decide +kernel, by decide +kernel⟩
abbrev s_moved_find : Stmt := tops 39
theorem sc_moved_find : FnScope ["find", "least", "by"] ["find", "least", "by"] (defScope s_moved_find) := ⟨rfl, rfl, rfl, by decide +kernel, rfl, by decide +kernel, by decide +kernel⟩
abbrev s_Archive__m_change : Stmt := inClass (tops 40) 1
theorem sc_Archive__m_change : FnScope ["self", "log", "finds"] ["self", "log", "finds"] (defScope s_Archive__m_change) := ⟨rfl, rfl, rfl, by decide +kernel, rfl, by decide +kernel, by decide +kernel⟩
abbrev s_Archive__m_strike : Stmt := inClass (tops 40) 3
theorem sc_Archive__m_strike : FnScope ["self", "number", "log", "finds", "find"] ["self", "number"] (defScope s_Archive__m_strike) := ⟨rfl, rfl, rfl, by decide +kernel, rfl, by decide +kernel, by decide +kernel⟩
abbrev s_Archive__m_back : Stmt := inClass (tops 40) 11
theorem sc_Archive__m_back : FnScope ["self"] ["self"] (defScope s_Archive__m_back) := ⟨rfl, rfl, rfl, by decide +kernel, rfl, by decide +kernel, by decide +kernel⟩
abbrev s_Archive__m_steps : Stmt := inClass (tops 40) 12
theorem sc_Archive__m_steps : FnScope ["self"] ["self"] (defScope s_Archive__m_steps) := ⟨rfl, rfl, rfl, by decide +kernel, rfl, by decide +kernel, by decide +kernel⟩
abbrev s__law_dice : Stmt := tops 42
theorem sc__law_dice : FnScope ["_law_script", "_law_cell"] ["_law_script"] (defScope s__law_dice) := ⟨rfl, rfl, rfl, by decide +kernel, rfl, by decide +kernel, by decide +kernel⟩
abbrev s__law_draw : Stmt := tops 43
theorem sc__law_draw : FnScope ["_law_dice_here", "_law_sides", "_law_mixed", "_law_cell", "_law_digit"] ["_law_dice_here", "_law_sides"] (defScope s__law_draw) := ⟨rfl, rfl, rfl, by decide +kernel, rfl, by decide +kernel, by decide +kernel⟩
abbrev s__law_row : Stmt := tops 48
theorem sc__law_row : FnScope ["_law_dice_here", "_law_offices_here", "_law_share", "_law_x", "_law_y"] ["_law_dice_here", "_law_offices_here", "_law_share"] (defScope s__law_row) := ⟨rfl, rfl, rfl, by decide +kernel, rfl, by decide +kernel, by decide +kernel⟩
abbrev s__law_rows : Stmt := tops 49
theorem sc__law_rows : FnScope ["_law_dice_here", "_law_offices_here", "_law_many", "_law_share", "_law_k"] ["_law_dice_here", "_law_offices_here", "_law_many"] (defScope s__law_rows) := ⟨rfl, rfl, rfl, by decide +kernel, rfl, by decide +kernel, by decide +kernel⟩
abbrev s__law_doing : Stmt := tops 50
theorem sc__law_doing : FnScope ["_law_dice_here", "_law_rows_here", "_law_share", "_law_row_here"] ["_law_dice_here", "_law_rows_here"] (defScope s__law_doing) := ⟨rfl, rfl, rfl, by decide +kernel, rfl, by decide +kernel, by decide +kernel⟩
abbrev s__law_led : Stmt := tops 51
theorem sc__law_led : FnScope ["_law_offices_here", "_law_rows_here", "_law_doing_here", "_law_found", "_law_k", "_law_here"] ["_law_offices_here", "_law_rows_here", "_law_doing_here"] (defScope s__law_led) := ⟨rfl, rfl, rfl, by decide +kernel, rfl, by decide +kernel, by decide +kernel⟩
abbrev s__law_find : Stmt := tops 53
theorem sc__law_find : FnScope ["_law_dice_here", "_law_offices_here", "_law_led_here", "_law_moment", "_law_office"] ["_law_dice_here", "_law_offices_here", "_law_led_here"] (defScope s__law_find) := ⟨rfl, rfl, rfl, by decide +kernel, rfl, by decide +kernel, by decide +kernel⟩
abbrev s__law_moved : Stmt := tops 55
theorem sc__law_moved : FnScope ["_law_find_here", "_law_least", "_law_by"] ["_law_find_here", "_law_least", "_law_by"] (defScope s__law_moved) := ⟨rfl, rfl, rfl, by decide +kernel, rfl, by decide +kernel, by decide +kernel⟩
abbrev s_check_number : Stmt := tops 17
theorem sc_check_number : FnScope ["thing", "least", "most"] ["thing", "least", "most"] (defScope s_check_number) := ⟨rfl, rfl, rfl, by decide +kernel, rfl, by decide +kernel, by decide +kernel⟩
abbrev s_Archive__init : Stmt := inClass (tops 40) 0
theorem sc_Archive__init : FnScope ["self", "offices"] ["self", "offices"] (defScope s_Archive__init) := ⟨rfl, rfl, rfl, by decide +kernel, rfl, by decide +kernel, by decide +kernel⟩
abbrev s_check_most : Stmt := tops 18
theorem sc_check_most : FnScope ["many", "most"] ["many", "most"] (defScope s_check_most) := ⟨rfl, rfl, rfl, by decide +kernel, rfl, by decide +kernel, by decide +kernel⟩
abbrev s_with_row : Stmt := tops 34
theorem sc_with_row : FnScope ["log", "at", "row"] ["log", "at", "row"] (defScope s_with_row) := ⟨rfl, rfl, rfl, by decide +kernel, rfl, by decide +kernel, by decide +kernel⟩
abbrev s_Archive__m_put : Stmt := inClass (tops 40) 2
theorem sc_Archive__m_put : FnScope ["self", "at", "row", "later", "log", "finds", "find"] ["self", "at", "row"] (defScope s_Archive__m_put) := ⟨rfl, rfl, rfl, by decide +kernel, rfl, by decide +kernel, by decide +kernel⟩
abbrev s_is_find : Stmt := tops 37
theorem sc_is_find : FnScope ["log", "thing"] ["log", "thing"] (defScope s_is_find) := ⟨rfl, rfl, rfl, by decide +kernel, rfl, by decide +kernel, by decide +kernel⟩
abbrev s_Archive__m_show : Stmt := inClass (tops 40) 4
theorem sc_Archive__m_show : FnScope ["self", "find", "log", "finds"] ["self", "find"] (defScope s_Archive__m_show) := ⟨rfl, rfl, rfl, by decide +kernel, rfl, by decide +kernel, by decide +kernel⟩
abbrev s__law_filled : Stmt := tops 60
theorem sc__law_filled : FnScope ["_law_offices_here", "_law_rows_here", "_law_finds", "_law_archive", "_law_row_here", "_law_find_here"] ["_law_offices_here", "_law_rows_here", "_law_finds"] (defScope s__law_filled) := ⟨rfl, rfl, rfl, by decide +kernel, rfl, by decide +kernel, by decide +kernel⟩
abbrev s_is_doing : Stmt := tops 28
theorem sc_is_doing : FnScope ["log", "thing", "flag", "row"] ["log", "thing"] (defScope s_is_doing) := ⟨rfl, rfl, rfl, by decide +kernel, rfl, by decide +kernel, by decide +kernel⟩
abbrev s_check_doing : Stmt := tops 29
theorem sc_check_doing : FnScope ["log", "doing"] ["log", "doing"] (defScope s_check_doing) := ⟨rfl, rfl, rfl, by decide +kernel, rfl, by decide +kernel, by decide +kernel⟩
abbrev s_begun : Stmt := tops 26
theorem sc_begun : FnScope ["offices"] ["offices"] (defScope s_begun) := ⟨rfl, rfl, rfl, by decide +kernel, rfl, by decide +kernel, by decide +kernel⟩
abbrev s_copied : Stmt := tops 27
theorem sc_copied : FnScope ["editions", "row"] ["editions", "row"] (defScope s_copied) := ⟨rfl, rfl, rfl, by decide +kernel, rfl, by decide +kernel, by decide +kernel⟩
abbrev s_led : Stmt := tops 30
theorem sc_led : FnScope ["log", "doing", "found", "flag", "row"] ["log", "doing"] (defScope s_led) := ⟨rfl, rfl, rfl, by decide +kernel, rfl, by decide +kernel, by decide +kernel⟩
abbrev s_all_sheets : Stmt := tops 31
theorem sc_all_sheets : FnScope ["log", "doing"] ["log", "doing"] (defScope s_all_sheets) := ⟨rfl, rfl, rfl, by decide +kernel, rfl, by decide +kernel, by decide +kernel⟩
abbrev s__law_put_right : Stmt := tops 61
theorem sc__law_put_right : FnScope ["_law_archive", "_law_offices_here", "_law_rows_here", "_law_finds", "_law_at", "_law_row_here", "_law_doing_here", "_law_before", "_law_later", "_law_k", "_law_log", "_law_told", "_law_find_here"] ["_law_archive", "_law_offices_here", "_law_rows_here", "_law_finds", "_law_at", "_law_row_here", "_law_doing_here"] (defScope s__law_put_right) := ⟨rfl, rfl, rfl, by decide +kernel, rfl, by decide +kernel, by decide +kernel⟩
abbrev s_law : Stmt := tops 62
theorem sc_law : FnScope ["_law_script", "_law_dice_here", "_law_offices_here", "_law_rows_here", "_law_doing_here", "_law_led_here", "_law_finds", "_law_archive", "_law_at", "_law_x", "_law_y", "_law_sure", "_law_log", "_law_told", "_law_k", "_law_find_here"] ["_law_script"] (defScope s_law) := ⟨rfl, rfl, rfl, by decide +kernel, rfl, by decide +kernel, by decide +kernel⟩
structure Facts (G : GX) : Prop where
  z_abs : G.mg "abs" = none
  z_all : G.mg "all" = none
  z_bool : G.mg "bool" = none
  z_enumerate : G.mg "enumerate" = none
  z_int : G.mg "int" = none
  z_isinstance : G.mg "isinstance" = none
  z_len : G.mg "len" = none
  z_list : G.mg "list" = none
  z_range : G.mg "range" = none
  z_tuple : G.mg "tuple" = none
  z_zip : G.mg "zip" = none
  c_MOST_FINDS : ConI G "MOST_FINDS" 40
  c_MOST_OFFICES : ConI G "MOST_OFFICES" 12
  c_MOST_ROWS : ConI G "MOST_ROWS" 60
  f_is_integer : FunF G "is_integer" s_is_integer
  f_is_within : FunF G "is_within" s_is_within
  f_is_triple : FunF G "is_triple" s_is_triple
  f_is_flag : FunF G "is_flag" s_is_flag
  f_is_row : FunF G "is_row" s_is_row
  f_first_bad : FunF G "first_bad" s_first_bad
  i_Log : ClsF G "Log" "Log.__init__" s_Log__init
  q_Log : EqF G "Log" "Log.__eq__" s_Log__same
  d_Archive__m_now : MetF G "Archive" "now" "Archive.now" s_Archive__m_now
  f_check_row : FunF G "check_row" s_check_row
  f_raw_log : FunF G "raw_log" s_raw_log
  f_without : FunF G "without" s_without
  f_moved_find : FunF G "moved_find" s_moved_find
  d_Archive__m_change : MetF G "Archive" "change" "Archive.change" s_Archive__m_change
  d_Archive__m_strike : MetF G "Archive" "strike" "Archive.strike" s_Archive__m_strike
  d_Archive__m_back : MetF G "Archive" "back" "Archive.back" s_Archive__m_back
  d_Archive__m_steps : MetF G "Archive" "steps" "Archive.steps" s_Archive__m_steps
  f__law_dice : FunF G "_law_dice" s__law_dice
  f__law_draw : FunF G "_law_draw" s__law_draw
  f__law_row : FunF G "_law_row" s__law_row
  f__law_rows : FunF G "_law_rows" s__law_rows
  f__law_doing : FunF G "_law_doing" s__law_doing
  f__law_led : FunF G "_law_led" s__law_led
  f__law_find : FunF G "_law_find" s__law_find
  f__law_moved : FunF G "_law_moved" s__law_moved
  f_check_number : FunF G "check_number" s_check_number
  i_Archive : ClsF G "Archive" "Archive.__init__" s_Archive__init
  f_check_most : FunF G "check_most" s_check_most
  f_with_row : FunF G "with_row" s_with_row
  d_Archive__m_put : MetF G "Archive" "put" "Archive.put" s_Archive__m_put
  f_is_find : FunF G "is_find" s_is_find
  d_Archive__m_show : MetF G "Archive" "show" "Archive.show" s_Archive__m_show
  f__law_filled : FunF G "_law_filled" s__law_filled
  f_is_doing : FunF G "is_doing" s_is_doing
  f_check_doing : FunF G "check_doing" s_check_doing
  f_begun : FunF G "begun" s_begun
  f_copied : FunF G "copied" s_copied
  f_led : FunF G "led" s_led
  f_all_sheets : FunF G "all_sheets" s_all_sheets
  f__law_put_right : FunF G "_law_put_right" s__law_put_right
  f_law : FunF G "law" s_law
  x_BadRow : RaiF G "BadRow"
  x_NoDoing : RaiF G "NoDoing"
  x_NoFind : RaiF G "NoFind"
  x_NoNumber : RaiF G "NoNumber"
  x_NoRow : RaiF G "NoRow"
  x_NothingDone : RaiF G "NothingDone"
  j_Log : InsF G "Log"
  a_Archive : ClsA G "Archive" ["pair", "past"]
  a_Log : ClsA G "Log" ["offices", "rows"]

section
variable {P : Program} {w : World} {G : GX} {base : Heap}
theorem ok_is_integer (T : Facts G)  : FnA G P w base 1 "is_integer" 1 m_is_integer := by
  rw [m_is_integer_eq]
  obtain ⟨f, fd, F, hm⟩ := T.f_is_integer
  exact FnA.of F sc_is_integer hm (F.binds (ps := ["thing"]) fun _ _ _ _ _ _ us hl => match us, hl with | [_], _ => rfl) (fun cdv A outer s H E c =>
    (ass_one (as_ret (ae_and (ae_isi "int" T.z_isinstance (ae_var 0) (hmx := T.z_int)) (ae_one (ae_not (ae_isi "bool" T.z_isinstance (ae_var 0) (hmx := T.z_bool))))))))

theorem ok_is_within (T : Facts G) (F_is_integer : FnA G P w base 1 "is_integer" 1 m_is_integer) : FnA G P w base 2 "is_within" 3 m_is_within := by
  rw [m_is_within_eq]
  obtain ⟨f, fd, F, hm⟩ := T.f_is_within
  exact FnA.of F sc_is_within hm (F.binds (ps := ["thing", "least", "most"]) fun _ _ _ _ _ _ us hl => match us, hl with | [_, _, _], _ => rfl) (fun cdv A outer s H E c =>
    (ass_one (as_ret (ae_and (ae_call F_is_integer c (aa_cons (ae_var 0) aa_nil) (lCons_len lNil_len)) (ae_one (ae_leLe (ae_var 1) (ae_var 0) (ae_var 2)))))))

theorem ok_is_triple (T : Facts G)  : FnA G P w base 1 "is_triple" 1 m_is_triple := by
  rw [m_is_triple_eq]
  obtain ⟨f, fd, F, hm⟩ := T.f_is_triple
  exact FnA.of F sc_is_triple hm (F.binds (ps := ["thing"]) fun _ _ _ _ _ _ us hl => match us, hl with | [_], _ => rfl) (fun cdv A outer s H E c =>
    (ass_one (as_ret (ae_and (ae_isi "tuple" T.z_isinstance (ae_var 0) (hmx := T.z_tuple)) (ae_one (ae_eq c (ae_len T.z_len (aq_ofE (ae_var 0))) ae_int))))))

theorem ok_is_flag (T : Facts G)  : FnA G P w base 1 "is_flag" 1 m_is_flag := by
  rw [m_is_flag_eq]
  obtain ⟨f, fd, F, hm⟩ := T.f_is_flag
  exact FnA.of F sc_is_flag hm (F.binds (ps := ["thing"]) fun _ _ _ _ _ _ us hl => match us, hl with | [_], _ => rfl) (fun cdv A outer s H E c =>
    (ass_one (as_ret (ae_isi "bool" T.z_isinstance (ae_var 0) (hmx := T.z_bool)))))

theorem ok_is_row (T : Facts G) (F_is_flag : FnA G P w base 1 "is_flag" 1 m_is_flag) (F_is_triple : FnA G P w base 1 "is_triple" 1 m_is_triple) (F_is_within : FnA G P w base 2 "is_within" 3 m_is_within) : FnA G P w base 3 "is_row" 2 m_is_row := by
  rw [m_is_row_eq]
  obtain ⟨f, fd, F, hm⟩ := T.f_is_row
  exact FnA.of F sc_is_row hm (F.binds (ps := ["offices", "thing"]) fun _ _ _ _ _ _ us hl => match us, hl with | [_, _], _ => rfl) (fun cdv A outer s H E c =>
    (ass_cons (as_if (at_w (aw_or (at_not (at_val (ae_call F_is_triple c (aa_cons (ae_var 1) aa_nil) (lCons_len lNil_len)))) (aw_or (at_not (at_val (ae_call F_is_within c (aa_cons (ae_get (ae_var 1) ae_int) (aa_cons ae_int (aa_cons (ae_sub (ae_var 0) ae_int) aa_nil))) (lCons_len (lCons_len (lCons_len lNil_len)))))) (aw_or1 (at_not (at_val (ae_call F_is_within c (aa_cons (ae_get (ae_var 1) ae_int) (aa_cons ae_int (aa_cons (ae_sub (ae_var 0) ae_int) aa_nil))) (lCons_len (lCons_len (lCons_len lNil_len)))))))))) (ass_one (as_ret ae_bl)) ass_nil)
    (ass_one (as_ret (ae_and (ae_eq c (ae_abs T.z_abs (aa_cons (ae_sub (ae_get (ae_var 1) ae_int) (ae_get (ae_var 1) ae_int)) aa_nil)) ae_int) (ae_one (ae_call F_is_flag c (aa_cons (ae_get (ae_var 1) ae_int) aa_nil) (lCons_len lNil_len))))))))

theorem ok_first_bad (T : Facts G) (F_is_row : FnA G P w base 3 "is_row" 2 m_is_row) : FnA G P w base 4 "first_bad" 2 m_first_bad := by
  rw [m_first_bad_eq]
  obtain ⟨f, fd, F, hm⟩ := T.f_first_bad
  exact FnA.of F sc_first_bad hm (F.binds (ps := ["offices", "rows"]) fun _ _ _ _ _ _ us hl => match us, hl with | [_, _], _ => rfl) (fun cdv A outer s H E c =>
    (ass_cons (as_for c (ai_enum T.z_enumerate (aa_cons (ae_var 1) aa_nil)) (ag_tup c.calm (ags_cons (ag_name c.nd 2) (ags_cons (ag_name c.nd 3) ags_nil))) (ass_one (as_if (at_not (at_val (ae_call F_is_row c (aa_cons (ae_var 0) (aa_cons (ae_var 3) aa_nil)) (lCons_len (lCons_len lNil_len))))) (ass_one (as_ret (ae_var 2))) ass_nil)))
    (ass_one (as_ret ae_non))))

theorem ok_Log__init (T : Facts G) (F_first_bad : FnA G P w base 4 "first_bad" 2 m_first_bad) (F_is_within : FnA G P w base 2 "is_within" 3 m_is_within) : MkA G P w base 5 "Log" 3 m_Log__init := by
  rw [m_Log__init_eq]
  exact MkA.of T.i_Log sc_Log__init (fun f fd F => F.binds (ps := ["self", "offices", "rows"]) fun _ _ _ _ _ _ us hl => match us, hl with | [_, _, _], _ => rfl) (fun f cdv A outer s H E c =>
    (ass_cons (as_if (at_not (at_val (ae_call F_is_within c (aa_cons (ae_var 1) (aa_cons ae_int (aa_cons (ae_conI T.c_MOST_OFFICES) aa_nil))) (lCons_len (lCons_len (lCons_len lNil_len)))))) (ass_one (as_never _)) ass_nil)
    (ass_cons (as_if (at_w (aw_or (at_not (at_val (ae_isi "tuple" T.z_isinstance (ae_var 2) (hmx := T.z_tuple)))) (aw_or1 (at_gt (ae_len T.z_len (aq_ofE (ae_var 2))) (ae_conI T.c_MOST_ROWS))))) (ass_one (as_never _)) ass_nil)
    (ass_cons (as_set c 3 (ae_call F_first_bad c (aa_cons (ae_var 1) (aa_cons (ae_var 2) aa_nil)) (lCons_len (lCons_len lNil_len))))
    (ass_cons (as_if (at_notN (ae_var 3)) (ass_one (as_never _)) ass_nil)
    (ass_cons (as_fld ["Log"] (ae_var 0) (ae_var 1) (cls1 T.a_Log))
    (ass_one (as_fld ["Log"] (ae_var 0) (ae_var 2) (cls1 T.a_Log)))))))))

theorem ok_Log__same (T : Facts G)  : EqA G P w base 1 "Log" m_Log__same := by
  rw [m_Log__same_eq]
  exact EqA.of T.q_Log sc_Log__same rfl (fun f fd F => F.binds (ps := ["self", "other"]) fun _ _ _ _ _ _ us hl => match us, hl with | [_, _], _ => rfl) (fun f cdv A outer s H E c =>
    (ass_cons (as_if (at_not (at_val (ae_isC T.j_Log T.z_isinstance (ae_var 1)))) (ass_one (as_ret ae_bl)) ass_nil)
    (ass_one (as_ret (ae_and (ae_eq c (ae_fld ["Log"] (ae_var 0) (cls1 T.a_Log)) (ae_fld ["Log"] (ae_var 1) (cls1 T.a_Log))) (ae_one (ae_eq c (ae_fld ["Log"] (ae_var 0) (cls1 T.a_Log)) (ae_fld ["Log"] (ae_var 1) (cls1 T.a_Log)))))))))

theorem ok_Archive__m_now (T : Facts G)  : DefA G P w base 1 "Archive" "now" 1 m_Archive__m_now := by
  rw [m_Archive__m_now_eq]
  exact DefA.of T.d_Archive__m_now sc_Archive__m_now (fun f fd F => F.binds (ps := ["self"]) fun _ _ _ _ _ _ us hl => match us, hl with | [_], _ => rfl) (fun f cdv A outer s H E c =>
    (ass_one (as_ret (ae_fld ["Archive"] (ae_var 0) (cls1 T.a_Archive)))))

theorem ok_check_row (T : Facts G) (F_is_within : FnA G P w base 2 "is_within" 3 m_is_within) : FnA G P w base 3 "check_row" 2 m_check_row := by
  rw [m_check_row_eq]
  obtain ⟨f, fd, F, hm⟩ := T.f_check_row
  exact FnA.of F sc_check_row hm (F.binds (ps := ["log", "row"]) fun _ _ _ _ _ _ us hl => match us, hl with | [_, _], _ => rfl) (fun cdv A outer s H E c =>
    (ass_one (as_if (at_not (at_val (ae_call F_is_within c (aa_cons (ae_var 1) (aa_cons ae_int (aa_cons (ae_sub (ae_len T.z_len (aq_ofE (ae_fld ["Log"] (ae_var 0) (cls1 T.a_Log)))) ae_int) aa_nil))) (lCons_len (lCons_len (lCons_len lNil_len)))))) (ass_one (as_raise c T.x_NoRow)) ass_nil)))

theorem ok_raw_log (T : Facts G) (F_Log__init : MkA G P w base 5 "Log" 3 m_Log__init) : FnA G P w base 7 "raw_log" 2 m_raw_log := by
  rw [m_raw_log_eq]
  obtain ⟨f, fd, F, hm⟩ := T.f_raw_log
  exact FnA.of F sc_raw_log hm (F.binds (ps := ["offices", "rows"]) fun _ _ _ _ _ _ us hl => match us, hl with | [_, _], _ => rfl) (fun cdv A outer s H E c =>
    (ass_cons (as_set c 2 (ae_make F_Log__init c (aa_cons (ae_var 0) (aa_cons (ae_tup aa_nil) aa_nil)) (lCons_len (lCons_len lNil_len))))
    (ass_cons (as_fld ["Log"] (ae_var 2) (ae_tuple T.z_tuple (aq_ofE (ae_var 1))) (cls1 T.a_Log))
    (ass_one (as_ret (ae_var 2))))))

theorem ok_without (T : Facts G) (F_check_row : FnA G P w base 3 "check_row" 2 m_check_row) (F_raw_log : FnA G P w base 7 "raw_log" 2 m_raw_log) : FnA G P w base 8 "without" 2 m_without := by
  rw [m_without_eq]
  obtain ⟨f, fd, F, hm⟩ := T.f_without
  exact FnA.of F sc_without hm (F.binds (ps := ["log", "row"]) fun _ _ _ _ _ _ us hl => match us, hl with | [_, _], _ => rfl) (fun cdv A outer s H E c =>
    (ass_cons (as_expr (ae_call F_check_row c (aa_cons (ae_var 0) (aa_cons (ae_var 1) aa_nil)) (lCons_len (lCons_len lNil_len))))
    (ass_one (as_ret (ae_call F_raw_log c (aa_cons (ae_fld ["Log"] (ae_var 0) (cls1 T.a_Log)) (aa_cons (ae_add (ae_slT (ae_fld ["Log"] (ae_var 0) (cls1 T.a_Log)) ao_none (ao_some (ae_var 1))) (ae_slT (ae_fld ["Log"] (ae_var 0) (cls1 T.a_Log)) (ao_some (ae_add (ae_var 1) ae_int)) ao_none)) aa_nil)) (lCons_len (lCons_len lNil_len)))))))

theorem ok_moved_find (T : Facts G)  : FnA G P w base 1 "moved_find" 3 m_moved_find := by
  rw [m_moved_find_eq]
  obtain ⟨f, fd, F, hm⟩ := T.f_moved_find
  exact FnA.of F sc_moved_find hm (F.binds (ps := ["find", "least", "by"]) fun _ _ _ _ _ _ us hl => match us, hl with | [_, _, _], _ => rfl) (fun cdv A outer s H E c =>
    (ass_cons (as_if (at_lt (ae_get (ae_var 0) ae_int) (ae_var 1)) (ass_one (as_ret (ae_var 0))) ass_nil)
    (ass_one (as_ret (ae_tup (aa_cons (ae_add (ae_get (ae_var 0) ae_int) (ae_var 2)) (aa_cons (ae_get (ae_var 0) ae_int) (aa_cons (ae_get (ae_var 0) ae_int) aa_nil))))))))

theorem ok_Archive__m_change (T : Facts G)  : DefA G P w base 1 "Archive" "change" 3 m_Archive__m_change := by
  rw [m_Archive__m_change_eq]
  exact DefA.of T.d_Archive__m_change sc_Archive__m_change (fun f fd F => F.binds (ps := ["self", "log", "finds"]) fun _ _ _ _ _ _ us hl => match us, hl with | [_, _, _], _ => rfl) (fun f cdv A outer s H E c =>
    (ass_cons (as_expr (ae_append (ae_fld ["Archive"] (ae_var 0) (cls1 T.a_Archive)) (aa_cons (ae_fld ["Archive"] (ae_var 0) (cls1 T.a_Archive)) aa_nil)))
    (ass_one (as_fld ["Archive"] (ae_var 0) (ae_tup (aa_cons (ae_var 1) (aa_cons (ae_var 2) aa_nil))) (cls1 T.a_Archive)))))

theorem ok_Archive__m_strike (T : Facts G) (F_Archive__m_change : DefA G P w base 1 "Archive" "change" 3 m_Archive__m_change) (F_check_row : FnA G P w base 3 "check_row" 2 m_check_row) (F_moved_find : FnA G P w base 1 "moved_find" 3 m_moved_find) (F_without : FnA G P w base 8 "without" 2 m_without) : DefA G P w base 9 "Archive" "strike" 2 m_Archive__m_strike := by
  rw [m_Archive__m_strike_eq]
  exact DefA.of T.d_Archive__m_strike sc_Archive__m_strike (fun f fd F => F.binds (ps := ["self", "number"]) fun _ _ _ _ _ _ us hl => match us, hl with | [_, _], _ => rfl) (fun f cdv A outer s H E c =>
    (ass_cons (as_asg (ae_fld ["Archive"] (ae_var 0) (cls1 T.a_Archive)) (ag_tup c.calm (ags_cons (ag_name c.nd 2) (ags_cons (ag_name c.nd 3) ags_nil))))
    (ass_cons (as_expr (ae_call F_check_row c (aa_cons (ae_var 2) (aa_cons (ae_var 1) aa_nil)) (lCons_len (lCons_len lNil_len))))
    (ass_one (as_expr (ae_meth F_Archive__m_change c (ae_var 0) (aa_cons (ae_call F_without c (aa_cons (ae_var 2) (aa_cons (ae_var 1) aa_nil)) (lCons_len (lCons_len lNil_len))) (aa_cons (ae_tuple T.z_tuple (aq_ofL (al_comp c (ai_seq (ae_var 3)) [("find", 4)] (blkOk_by (N := ["self", "number", "log", "finds", "find"]) (sc := (defScope s_Archive__m_strike)) (by decide +kernel)) (fun _ _ _ _ _ => (ag_name (Ctx.blk c _ _ _ _ _).nd 4)) (fun _ _ _ _ _ => ats_nil) (fun _ _ _ _ _ => (ae_call F_moved_find (Ctx.blk c _ _ _ _ _) (aa_cons (ae_var 4) (aa_cons (ae_add (ae_var 1) ae_int) (aa_cons (ae_neg ae_int) aa_nil))) (lCons_len (lCons_len (lCons_len lNil_len)))))))) aa_nil)) (lCons_len (lCons_len lNil_len))))))))

theorem ok_Archive__m_back (T : Facts G)  : DefA G P w base 1 "Archive" "back" 1 m_Archive__m_back := by
  rw [m_Archive__m_back_eq]
  exact DefA.of T.d_Archive__m_back sc_Archive__m_back (fun f fd F => F.binds (ps := ["self"]) fun _ _ _ _ _ _ us hl => match us, hl with | [_], _ => rfl) (fun f cdv A outer s H E c =>
    (ass_cons (as_if (at_eq c (ae_len T.z_len (aq_ofE (ae_fld ["Archive"] (ae_var 0) (cls1 T.a_Archive)))) ae_int) (ass_one (as_raise c T.x_NothingDone)) ass_nil)
    (ass_one (as_fld ["Archive"] (ae_var 0) (ae_pop (ae_fld ["Archive"] (ae_var 0) (cls1 T.a_Archive))) (cls1 T.a_Archive)))))

theorem ok_Archive__m_steps (T : Facts G)  : DefA G P w base 1 "Archive" "steps" 1 m_Archive__m_steps := by
  rw [m_Archive__m_steps_eq]
  exact DefA.of T.d_Archive__m_steps sc_Archive__m_steps (fun f fd F => F.binds (ps := ["self"]) fun _ _ _ _ _ _ us hl => match us, hl with | [_], _ => rfl) (fun f cdv A outer s H E c =>
    (ass_one (as_ret (ae_len T.z_len (aq_ofE (ae_fld ["Archive"] (ae_var 0) (cls1 T.a_Archive)))))))

theorem ok__law_dice (T : Facts G)  : FnA G P w base 1 "_law_dice" 1 m__law_dice := by
  rw [m__law_dice_eq]
  obtain ⟨f, fd, F, hm⟩ := T.f__law_dice
  exact FnA.of F sc__law_dice hm (F.binds (ps := ["_law_script"]) fun _ _ _ _ _ _ us hl => match us, hl with | [_], _ => rfl) (fun cdv A outer s H E c =>
    (ass_one (as_ret (ae_ofL (al_lst (aa_cons (ae_ofL (al_comp c (ai_lst (al_slL (ae_var 0) ao_none (ao_some ae_int))) [("_law_cell", 1)] (blkOk_by (N := ["_law_script", "_law_cell"]) (sc := (defScope s__law_dice)) (by decide +kernel)) (fun _ _ _ _ _ => (ag_name (Ctx.blk c _ _ _ _ _).nd 1)) (fun _ _ _ _ _ => ats_nil) (fun _ _ _ _ _ => (ae_abs T.z_abs (aa_cons (ae_int1 T.z_int (aa_cons (ae_var 1) aa_nil)) aa_nil))))) (aa_cons ae_int (aa_cons ae_int (aa_cons ae_int (aa_cons ae_int aa_nil))))))))))

theorem ok__law_draw (T : Facts G)  : FnA G P w base 1 "_law_draw" 2 m__law_draw := by
  rw [m__law_draw_eq]
  obtain ⟨f, fd, F, hm⟩ := T.f__law_draw
  exact FnA.of F sc__law_draw hm (F.binds (ps := ["_law_dice_here", "_law_sides"]) fun _ _ _ _ _ _ us hl => match us, hl with | [_, _], _ => rfl) (fun cdv A outer s H E c =>
    (ass_cons (as_if (at_w (aw_and (at_eq c (ae_get (ae_var 0) ae_int) ae_int) (aw_and1 (at_lt (ae_get (ae_var 0) ae_int) (ae_len T.z_len (aq_ofE (ae_get (ae_var 0) ae_int))))))) (ass_cons (as_set c 3 (ae_get (ae_get (ae_var 0) ae_int) (ae_get (ae_var 0) ae_int)))
    (ass_cons (as_sub (ae_var 0) ae_int (ae_add (ae_get (ae_var 0) ae_int) ae_int))
    (ass_one (as_if (at_ge (ae_var 3) (ae_pow ae_int ae_int)) (ass_one (as_sub (ae_var 0) ae_int (ae_var 3))) (ass_one (as_sub (ae_var 0) ae_int (ae_mod (ae_int1 T.z_int (aa_cons (ae_add (ae_add (ae_mul (ae_get (ae_var 0) ae_int) ae_int) (ae_mul (ae_var 3) ae_int)) (ae_get (ae_var 0) ae_int)) aa_nil)) ae_int))))))) ass_nil)
    (ass_cons (as_if (at_gt (ae_get (ae_var 0) ae_int) ae_int) (ass_cons (as_set c 4 (ae_mod (ae_int1 T.z_int (aa_cons (ae_get (ae_var 0) ae_int) aa_nil)) (ae_var 1)))
    (ass_cons (as_sub (ae_var 0) ae_int (ae_fdiv (ae_int1 T.z_int (aa_cons (ae_get (ae_var 0) ae_int) aa_nil)) (ae_var 1)))
    (ass_one (as_ret (ae_var 4))))) ass_nil)
    (ass_cons (as_sub (ae_var 0) ae_int (ae_add (ae_get (ae_var 0) ae_int) ae_int))
    (ass_cons (as_sub (ae_var 0) ae_int (ae_mod (ae_int1 T.z_int (aa_cons (ae_add (ae_add (ae_mul (ae_get (ae_var 0) ae_int) ae_int) (ae_mul (ae_get (ae_var 0) ae_int) ae_int)) ae_int) aa_nil)) ae_int))
    (ass_cons (as_set c 2 (ae_mod (ae_int1 T.z_int (aa_cons (ae_mul (ae_get (ae_var 0) ae_int) (ae_add (ae_fdiv (ae_get (ae_var 0) ae_int) ae_int) ae_int)) aa_nil)) ae_int))
    (ass_cons (as_set c 2 (ae_mod (ae_int1 T.z_int (aa_cons (ae_mul (ae_var 2) (ae_add (ae_fdiv (ae_var 2) ae_int) ae_int)) aa_nil)) ae_int))
    (ass_one (as_ret (ae_mod (ae_int1 T.z_int (aa_cons (ae_fdiv (ae_var 2) ae_int) aa_nil)) (ae_var 1)))))))))))

theorem ok__law_row (T : Facts G) (F__law_draw : FnA G P w base 1 "_law_draw" 2 m__law_draw) : FnA G P w base 2 "_law_row" 3 m__law_row := by
  rw [m__law_row_eq]
  obtain ⟨f, fd, F, hm⟩ := T.f__law_row
  exact FnA.of F sc__law_row hm (F.binds (ps := ["_law_dice_here", "_law_offices_here", "_law_share"]) fun _ _ _ _ _ _ us hl => match us, hl with | [_, _, _], _ => rfl) (fun cdv A outer s H E c =>
    (ass_cons (as_set c 3 (ae_call F__law_draw c (aa_cons (ae_var 0) (aa_cons (ae_var 1) aa_nil)) (lCons_len (lCons_len lNil_len))))
    (ass_cons (as_set c 4 (ae_add (ae_var 3) ae_int))
    (ass_cons (as_if (at_w (aw_and (at_gt (ae_var 3) ae_int) (aw_and1 (at_w (aw_or (at_eq c (ae_var 3) (ae_sub (ae_var 1) ae_int)) (aw_or1 (at_eq c (ae_call F__law_draw c (aa_cons (ae_var 0) (aa_cons ae_int aa_nil)) (lCons_len (lCons_len lNil_len))) ae_int))))))) (ass_one (as_set c 4 (ae_sub (ae_var 3) ae_int))) ass_nil)
    (ass_one (as_ret (ae_tup (aa_cons (ae_var 3) (aa_cons (ae_var 4) (aa_cons (ae_lt (ae_call F__law_draw c (aa_cons (ae_var 0) (aa_cons ae_int aa_nil)) (lCons_len (lCons_len lNil_len))) (ae_var 2)) aa_nil))))))))))

theorem ok__law_rows (T : Facts G) (F__law_draw : FnA G P w base 1 "_law_draw" 2 m__law_draw) (F__law_row : FnA G P w base 2 "_law_row" 3 m__law_row) : FnA G P w base 3 "_law_rows" 3 m__law_rows := by
  rw [m__law_rows_eq]
  obtain ⟨f, fd, F, hm⟩ := T.f__law_rows
  exact FnA.of F sc__law_rows hm (F.binds (ps := ["_law_dice_here", "_law_offices_here", "_law_many"]) fun _ _ _ _ _ _ us hl => match us, hl with | [_, _, _], _ => rfl) (fun cdv A outer s H E c =>
    (ass_cons (as_set c 3 (ae_get (ae_ofL (al_lst (aa_cons ae_int (aa_cons ae_int (aa_cons ae_int aa_nil))))) (ae_call F__law_draw c (aa_cons (ae_var 0) (aa_cons ae_int aa_nil)) (lCons_len (lCons_len lNil_len)))))
    (ass_cons (as_if (at_eq c (ae_var 1) ae_int) (ass_one (as_ret (ae_tup aa_nil))) ass_nil)
    (ass_one (as_ret (ae_tuple T.z_tuple (aq_ofL (al_comp c (ai_range1 T.z_range (aa_cons (ae_var 2) aa_nil)) [("_law_k", 4)] (blkOk_by (N := ["_law_dice_here", "_law_offices_here", "_law_many", "_law_share", "_law_k"]) (sc := (defScope s__law_rows)) (by decide +kernel)) (fun _ _ _ _ _ => (ag_name (Ctx.blk c _ _ _ _ _).nd 4)) (fun _ _ _ _ _ => ats_nil) (fun _ _ _ _ _ => (ae_call F__law_row (Ctx.blk c _ _ _ _ _) (aa_cons (ae_var 0) (aa_cons (ae_var 1) (aa_cons (ae_var 3) aa_nil))) (lCons_len (lCons_len (lCons_len lNil_len)))))))))))))

theorem ok__law_doing (T : Facts G) (F__law_draw : FnA G P w base 1 "_law_draw" 2 m__law_draw) : FnA G P w base 2 "_law_doing" 2 m__law_doing := by
  rw [m__law_doing_eq]
  obtain ⟨f, fd, F, hm⟩ := T.f__law_doing
  exact FnA.of F sc__law_doing hm (F.binds (ps := ["_law_dice_here", "_law_rows_here"]) fun _ _ _ _ _ _ us hl => match us, hl with | [_, _], _ => rfl) (fun cdv A outer s H E c =>
    (ass_cons (as_set c 2 (ae_get (ae_ofL (al_lst (aa_cons ae_int (aa_cons ae_int (aa_cons ae_int aa_nil))))) (ae_call F__law_draw c (aa_cons (ae_var 0) (aa_cons ae_int aa_nil)) (lCons_len (lCons_len lNil_len)))))
    (ass_one (as_ret (ae_tuple T.z_tuple (aq_ofL (al_comp c (ai_seq (ae_var 1)) [("_law_row_here", 3)] (blkOk_by (N := ["_law_dice_here", "_law_rows_here", "_law_share", "_law_row_here"]) (sc := (defScope s__law_doing)) (by decide +kernel)) (fun _ _ _ _ _ => (ag_name (Ctx.blk c _ _ _ _ _).nd 3)) (fun _ _ _ _ _ => ats_nil) (fun _ _ _ _ _ => (ae_or (ae_get (ae_var 3) ae_int) (ae_one (ae_lt (ae_call F__law_draw (Ctx.blk c _ _ _ _ _) (aa_cons (ae_var 0) (aa_cons ae_int aa_nil)) (lCons_len (lCons_len lNil_len))) (ae_var 2))))))))))))

theorem ok__law_led (T : Facts G)  : FnA G P w base 1 "_law_led" 3 m__law_led := by
  rw [m__law_led_eq]
  obtain ⟨f, fd, F, hm⟩ := T.f__law_led
  exact FnA.of F sc__law_led hm (F.binds (ps := ["_law_offices_here", "_law_rows_here", "_law_doing_here"]) fun _ _ _ _ _ _ us hl => match us, hl with | [_, _, _], _ => rfl) (fun cdv A outer s H E c =>
    (ass_cons (as_set c 3 (ae_ofL (al_lst (aa_cons (ae_tupRng1 c T.z_tuple T.z_range (ae_var 0)) aa_nil))))
    (ass_cons (as_for c (ai_range1 T.z_range (aa_cons (ae_len T.z_len (aq_ofE (ae_var 1))) aa_nil)) (ag_name c.nd 4) (ass_cons (as_set c 5 (ae_ofL (al_list T.z_list (aq_ofE (ae_get (ae_var 3) (ae_neg ae_int))))))
    (ass_cons (as_if (at_val (ae_get (ae_var 2) (ae_var 4))) (ass_one (as_sub (ae_var 5) (ae_get (ae_get (ae_var 1) (ae_var 4)) ae_int) (ae_get (ae_var 5) (ae_get (ae_get (ae_var 1) (ae_var 4)) ae_int)))) ass_nil)
    (ass_one (as_expr (ae_append (ae_var 3) (aa_cons (ae_tuple T.z_tuple (aq_ofE (ae_var 5))) aa_nil)))))))
    (ass_one (as_ret (ae_var 3))))))

theorem ok__law_find (T : Facts G) (F__law_draw : FnA G P w base 1 "_law_draw" 2 m__law_draw) : FnA G P w base 2 "_law_find" 3 m__law_find := by
  rw [m__law_find_eq]
  obtain ⟨f, fd, F, hm⟩ := T.f__law_find
  exact FnA.of F sc__law_find hm (F.binds (ps := ["_law_dice_here", "_law_offices_here", "_law_led_here"]) fun _ _ _ _ _ _ us hl => match us, hl with | [_, _, _], _ => rfl) (fun cdv A outer s H E c =>
    (ass_cons (as_set c 3 (ae_call F__law_draw c (aa_cons (ae_var 0) (aa_cons (ae_len T.z_len (aq_ofE (ae_var 2))) aa_nil)) (lCons_len (lCons_len lNil_len))))
    (ass_cons (as_set c 4 (ae_call F__law_draw c (aa_cons (ae_var 0) (aa_cons (ae_var 1) aa_nil)) (lCons_len (lCons_len lNil_len))))
    (ass_cons (as_if (at_eq c (ae_call F__law_draw c (aa_cons (ae_var 0) (aa_cons ae_int aa_nil)) (lCons_len (lCons_len lNil_len))) ae_int) (ass_one (as_ret (ae_tup (aa_cons (ae_var 3) (aa_cons (ae_var 4) (aa_cons (ae_call F__law_draw c (aa_cons (ae_var 0) (aa_cons (ae_var 1) aa_nil)) (lCons_len (lCons_len lNil_len))) aa_nil)))))) ass_nil)
    (ass_one (as_ret (ae_tup (aa_cons (ae_var 3) (aa_cons (ae_var 4) (aa_cons (ae_get (ae_get (ae_var 2) (ae_var 3)) (ae_var 4)) aa_nil))))))))))

theorem ok__law_moved (T : Facts G)  : FnA G P w base 1 "_law_moved" 3 m__law_moved := by
  rw [m__law_moved_eq]
  obtain ⟨f, fd, F, hm⟩ := T.f__law_moved
  exact FnA.of F sc__law_moved hm (F.binds (ps := ["_law_find_here", "_law_least", "_law_by"]) fun _ _ _ _ _ _ us hl => match us, hl with | [_, _, _], _ => rfl) (fun cdv A outer s H E c =>
    (ass_one (as_ret (ae_tup (aa_cons (ae_add (ae_get (ae_var 0) ae_int) (ae_mul (ae_var 2) (ae_int1 T.z_int (aa_cons (ae_ge (ae_get (ae_var 0) ae_int) (ae_var 1)) aa_nil)))) (aa_cons (ae_get (ae_var 0) ae_int) (aa_cons (ae_get (ae_var 0) ae_int) aa_nil)))))))

theorem ok_check_number (T : Facts G) (F_is_within : FnA G P w base 2 "is_within" 3 m_is_within) : FnA G P w base 3 "check_number" 3 m_check_number := by
  rw [m_check_number_eq]
  obtain ⟨f, fd, F, hm⟩ := T.f_check_number
  exact FnA.of F sc_check_number hm (F.binds (ps := ["thing", "least", "most"]) fun _ _ _ _ _ _ us hl => match us, hl with | [_, _, _], _ => rfl) (fun cdv A outer s H E c =>
    (ass_one (as_if (at_not (at_val (ae_call F_is_within c (aa_cons (ae_var 0) (aa_cons (ae_var 1) (aa_cons (ae_var 2) aa_nil))) (lCons_len (lCons_len (lCons_len lNil_len)))))) (ass_one (as_raise c T.x_NoNumber)) ass_nil)))

theorem ok_Archive__init (T : Facts G) (F_Log__init : MkA G P w base 5 "Log" 3 m_Log__init) (F_check_number : FnA G P w base 3 "check_number" 3 m_check_number) : MkA G P w base 7 "Archive" 2 m_Archive__init := by
  rw [m_Archive__init_eq]
  exact MkA.of T.i_Archive sc_Archive__init (fun f fd F => F.binds (ps := ["self", "offices"]) fun _ _ _ _ _ _ us hl => match us, hl with | [_, _], _ => rfl) (fun f cdv A outer s H E c =>
    (ass_cons (as_expr (ae_call F_check_number c (aa_cons (ae_var 1) (aa_cons ae_int (aa_cons (ae_conI T.c_MOST_OFFICES) aa_nil))) (lCons_len (lCons_len (lCons_len lNil_len)))))
    (ass_cons (as_fld ["Archive"] (ae_var 0) (ae_tup (aa_cons (ae_make F_Log__init c (aa_cons (ae_var 1) (aa_cons (ae_tup aa_nil) aa_nil)) (lCons_len (lCons_len lNil_len))) (aa_cons (ae_tup aa_nil) aa_nil))) (cls1 T.a_Archive))
    (ass_one (as_fld ["Archive"] (ae_var 0) (ae_ofL (al_lst aa_nil)) (cls1 T.a_Archive))))))

theorem ok_check_most (T : Facts G)  : FnA G P w base 1 "check_most" 2 m_check_most := by
  rw [m_check_most_eq]
  obtain ⟨f, fd, F, hm⟩ := T.f_check_most
  exact FnA.of F sc_check_most hm (F.binds (ps := ["many", "most"]) fun _ _ _ _ _ _ us hl => match us, hl with | [_, _], _ => rfl) (fun cdv A outer s H E c =>
    (ass_one (as_if (at_gt (ae_var 0) (ae_var 1)) (ass_one (as_never _)) ass_nil)))

theorem ok_with_row (T : Facts G) (F_is_row : FnA G P w base 3 "is_row" 2 m_is_row) (F_is_within : FnA G P w base 2 "is_within" 3 m_is_within) (F_raw_log : FnA G P w base 7 "raw_log" 2 m_raw_log) : FnA G P w base 8 "with_row" 3 m_with_row := by
  rw [m_with_row_eq]
  obtain ⟨f, fd, F, hm⟩ := T.f_with_row
  exact FnA.of F sc_with_row hm (F.binds (ps := ["log", "at", "row"]) fun _ _ _ _ _ _ us hl => match us, hl with | [_, _, _], _ => rfl) (fun cdv A outer s H E c =>
    (ass_cons (as_if (at_not (at_val (ae_call F_is_within c (aa_cons (ae_var 1) (aa_cons ae_int (aa_cons (ae_len T.z_len (aq_ofE (ae_fld ["Log"] (ae_var 0) (cls1 T.a_Log)))) aa_nil))) (lCons_len (lCons_len (lCons_len lNil_len)))))) (ass_one (as_raise c T.x_NoRow)) ass_nil)
    (ass_cons (as_if (at_not (at_val (ae_call F_is_row c (aa_cons (ae_fld ["Log"] (ae_var 0) (cls1 T.a_Log)) (aa_cons (ae_var 2) aa_nil)) (lCons_len (lCons_len lNil_len))))) (ass_one (as_raise c T.x_BadRow)) ass_nil)
    (ass_one (as_ret (ae_call F_raw_log c (aa_cons (ae_fld ["Log"] (ae_var 0) (cls1 T.a_Log)) (aa_cons (ae_add (ae_add (ae_slT (ae_fld ["Log"] (ae_var 0) (cls1 T.a_Log)) ao_none (ao_some (ae_var 1))) (ae_tup (aa_cons (ae_var 2) aa_nil))) (ae_slT (ae_fld ["Log"] (ae_var 0) (cls1 T.a_Log)) (ao_some (ae_var 1)) ao_none)) aa_nil)) (lCons_len (lCons_len lNil_len))))))))

theorem ok_Archive__m_put (T : Facts G) (F_Archive__m_change : DefA G P w base 1 "Archive" "change" 3 m_Archive__m_change) (F_check_most : FnA G P w base 1 "check_most" 2 m_check_most) (F_moved_find : FnA G P w base 1 "moved_find" 3 m_moved_find) (F_with_row : FnA G P w base 8 "with_row" 3 m_with_row) : DefA G P w base 9 "Archive" "put" 3 m_Archive__m_put := by
  rw [m_Archive__m_put_eq]
  exact DefA.of T.d_Archive__m_put sc_Archive__m_put (fun f fd F => F.binds (ps := ["self", "at", "row"]) fun _ _ _ _ _ _ us hl => match us, hl with | [_, _, _], _ => rfl) (fun f cdv A outer s H E c =>
    (ass_cons (as_asg (ae_fld ["Archive"] (ae_var 0) (cls1 T.a_Archive)) (ag_tup c.calm (ags_cons (ag_name c.nd 4) (ags_cons (ag_name c.nd 5) ags_nil))))
    (ass_cons (as_set c 3 (ae_call F_with_row c (aa_cons (ae_var 4) (aa_cons (ae_var 1) (aa_cons (ae_var 2) aa_nil))) (lCons_len (lCons_len (lCons_len lNil_len)))))
    (ass_cons (as_expr (ae_call F_check_most c (aa_cons (ae_len T.z_len (aq_ofE (ae_fld ["Log"] (ae_var 3) (cls1 T.a_Log)))) (aa_cons (ae_conI T.c_MOST_ROWS) aa_nil)) (lCons_len (lCons_len lNil_len))))
    (ass_one (as_expr (ae_meth F_Archive__m_change c (ae_var 0) (aa_cons (ae_var 3) (aa_cons (ae_tuple T.z_tuple (aq_ofL (al_comp c (ai_seq (ae_var 5)) [("find", 6)] (blkOk_by (N := ["self", "at", "row", "later", "log", "finds", "find"]) (sc := (defScope s_Archive__m_put)) (by decide +kernel)) (fun _ _ _ _ _ => (ag_name (Ctx.blk c _ _ _ _ _).nd 6)) (fun _ _ _ _ _ => ats_nil) (fun _ _ _ _ _ => (ae_call F_moved_find (Ctx.blk c _ _ _ _ _) (aa_cons (ae_var 6) (aa_cons (ae_add (ae_var 1) ae_int) (aa_cons ae_int aa_nil))) (lCons_len (lCons_len (lCons_len lNil_len)))))))) aa_nil)) (lCons_len (lCons_len lNil_len)))))))))

theorem ok_is_find (T : Facts G) (F_is_triple : FnA G P w base 1 "is_triple" 1 m_is_triple) (F_is_within : FnA G P w base 2 "is_within" 3 m_is_within) : FnA G P w base 3 "is_find" 2 m_is_find := by
  rw [m_is_find_eq]
  obtain ⟨f, fd, F, hm⟩ := T.f_is_find
  exact FnA.of F sc_is_find hm (F.binds (ps := ["log", "thing"]) fun _ _ _ _ _ _ us hl => match us, hl with | [_, _], _ => rfl) (fun cdv A outer s H E c =>
    (ass_cons (as_if (at_w (aw_or (at_not (at_val (ae_call F_is_triple c (aa_cons (ae_var 1) aa_nil) (lCons_len lNil_len)))) (aw_or1 (at_not (at_val (ae_call F_is_within c (aa_cons (ae_get (ae_var 1) ae_int) (aa_cons ae_int (aa_cons (ae_len T.z_len (aq_ofE (ae_fld ["Log"] (ae_var 0) (cls1 T.a_Log)))) aa_nil))) (lCons_len (lCons_len (lCons_len lNil_len))))))))) (ass_one (as_ret ae_bl)) ass_nil)
    (ass_one (as_ret (ae_and (ae_call F_is_within c (aa_cons (ae_get (ae_var 1) ae_int) (aa_cons ae_int (aa_cons (ae_sub (ae_fld ["Log"] (ae_var 0) (cls1 T.a_Log)) ae_int) aa_nil))) (lCons_len (lCons_len (lCons_len lNil_len)))) (ae_one (ae_call F_is_within c (aa_cons (ae_get (ae_var 1) ae_int) (aa_cons ae_int (aa_cons (ae_sub (ae_fld ["Log"] (ae_var 0) (cls1 T.a_Log)) ae_int) aa_nil))) (lCons_len (lCons_len (lCons_len lNil_len))))))))))

theorem ok_Archive__m_show (T : Facts G) (F_Archive__m_change : DefA G P w base 1 "Archive" "change" 3 m_Archive__m_change) (F_check_most : FnA G P w base 1 "check_most" 2 m_check_most) (F_is_find : FnA G P w base 3 "is_find" 2 m_is_find) : DefA G P w base 4 "Archive" "show" 2 m_Archive__m_show := by
  rw [m_Archive__m_show_eq]
  exact DefA.of T.d_Archive__m_show sc_Archive__m_show (fun f fd F => F.binds (ps := ["self", "find"]) fun _ _ _ _ _ _ us hl => match us, hl with | [_, _], _ => rfl) (fun f cdv A outer s H E c =>
    (ass_cons (as_asg (ae_fld ["Archive"] (ae_var 0) (cls1 T.a_Archive)) (ag_tup c.calm (ags_cons (ag_name c.nd 2) (ags_cons (ag_name c.nd 3) ags_nil))))
    (ass_cons (as_if (at_not (at_val (ae_call F_is_find c (aa_cons (ae_var 2) (aa_cons (ae_var 1) aa_nil)) (lCons_len (lCons_len lNil_len))))) (ass_one (as_raise c T.x_NoFind)) ass_nil)
    (ass_cons (as_expr (ae_call F_check_most c (aa_cons (ae_add (ae_len T.z_len (aq_ofE (ae_var 3))) ae_int) (aa_cons (ae_conI T.c_MOST_FINDS) aa_nil)) (lCons_len (lCons_len lNil_len))))
    (ass_one (as_expr (ae_meth F_Archive__m_change c (ae_var 0) (aa_cons (ae_var 2) (aa_cons (ae_add (ae_var 3) (ae_tup (aa_cons (ae_var 1) aa_nil))) aa_nil)) (lCons_len (lCons_len lNil_len)))))))))

theorem ok__law_filled (T : Facts G) (F_Archive__init : MkA G P w base 7 "Archive" 2 m_Archive__init) (F_Archive__m_now : DefA G P w base 1 "Archive" "now" 1 m_Archive__m_now) (F_Archive__m_put : DefA G P w base 9 "Archive" "put" 3 m_Archive__m_put) (F_Archive__m_show : DefA G P w base 4 "Archive" "show" 2 m_Archive__m_show) : FnA G P w base 10 "_law_filled" 3 m__law_filled := by
  rw [m__law_filled_eq]
  obtain ⟨f, fd, F, hm⟩ := T.f__law_filled
  exact FnA.of F sc__law_filled hm (F.binds (ps := ["_law_offices_here", "_law_rows_here", "_law_finds"]) fun _ _ _ _ _ _ us hl => match us, hl with | [_, _, _], _ => rfl) (fun cdv A outer s H E c =>
    (ass_cons (as_set c 3 (ae_make F_Archive__init c (aa_cons (ae_var 0) aa_nil) (lCons_len lNil_len)))
    (ass_cons (as_for c (ai_seq (ae_var 1)) (ag_name c.nd 4) (ass_one (as_expr (ae_meth F_Archive__m_put c (ae_var 3) (aa_cons (ae_len T.z_len (aq_ofE (ae_fld ["Log"] (ae_get (ae_meth0 F_Archive__m_now c (ae_var 3)) ae_int) (cls1 T.a_Log)))) (aa_cons (ae_var 4) aa_nil)) (lCons_len (lCons_len lNil_len))))))
    (ass_cons (as_for c (ai_seq (ae_var 2)) (ag_name c.nd 5) (ass_one (as_expr (ae_meth F_Archive__m_show c (ae_var 3) (aa_cons (ae_var 5) aa_nil) (lCons_len lNil_len)))))
    (ass_one (as_ret (ae_var 3)))))))

theorem ok_is_doing (T : Facts G) (F_is_flag : FnA G P w base 1 "is_flag" 1 m_is_flag) : FnA G P w base 2 "is_doing" 2 m_is_doing := by
  rw [m_is_doing_eq]
  obtain ⟨f, fd, F, hm⟩ := T.f_is_doing
  exact FnA.of F sc_is_doing hm (F.binds (ps := ["log", "thing"]) fun _ _ _ _ _ _ us hl => match us, hl with | [_, _], _ => rfl) (fun cdv A outer s H E c =>
    (ass_cons (as_if (at_w (aw_or (at_not (at_val (ae_isi "tuple" T.z_isinstance (ae_var 1) (hmx := T.z_tuple)))) (aw_or (at_ne c (ae_len T.z_len (aq_ofE (ae_var 1))) (ae_len T.z_len (aq_ofE (ae_fld ["Log"] (ae_var 0) (cls1 T.a_Log))))) (aw_or1 (at_not (at_val (ae_all c T.z_all (am_ofL (al_comp c (ai_seq (ae_var 1)) [("flag", 2)] (blkOk_by (N := ["log", "thing", "flag", "row"]) (sc := (defScope s_is_doing)) (by decide +kernel)) (fun _ _ _ _ _ => (ag_name (Ctx.blk c _ _ _ _ _).nd 2)) (fun _ _ _ _ _ => ats_nil) (fun _ _ _ _ _ => (ae_call F_is_flag (Ctx.blk c _ _ _ _ _) (aa_cons (ae_var 2) aa_nil) (lCons_len lNil_len)))))))))))) (ass_one (as_ret ae_bl)) ass_nil)
    (ass_one (as_ret (ae_all c T.z_all (am_ofL (al_comp c (ai_zip T.z_zip (aa_cons (ae_var 1) (aa_cons (ae_fld ["Log"] (ae_var 0) (cls1 T.a_Log)) aa_nil))) [("flag", 2), ("row", 3)] (blkOk_by (N := ["log", "thing", "flag", "row"]) (sc := (defScope s_is_doing)) (by decide +kernel)) (fun _ _ _ _ _ => (ag_tup (Ctx.blk c _ _ _ _ _).calm (ags_cons (ag_name (Ctx.blk c _ _ _ _ _).nd 2) (ags_cons (ag_name (Ctx.blk c _ _ _ _ _).nd 3) ags_nil)))) (fun _ _ _ _ _ => ats_nil) (fun _ _ _ _ _ => (ae_or (ae_var 2) (ae_one (ae_not (ae_get (ae_var 3) ae_int))))))))))))

theorem ok_check_doing (T : Facts G) (F_is_doing : FnA G P w base 2 "is_doing" 2 m_is_doing) : FnA G P w base 3 "check_doing" 2 m_check_doing := by
  rw [m_check_doing_eq]
  obtain ⟨f, fd, F, hm⟩ := T.f_check_doing
  exact FnA.of F sc_check_doing hm (F.binds (ps := ["log", "doing"]) fun _ _ _ _ _ _ us hl => match us, hl with | [_, _], _ => rfl) (fun cdv A outer s H E c =>
    (ass_one (as_if (at_not (at_val (ae_call F_is_doing c (aa_cons (ae_var 0) (aa_cons (ae_var 1) aa_nil)) (lCons_len (lCons_len lNil_len))))) (ass_one (as_raise c T.x_NoDoing)) ass_nil)))

theorem ok_begun (T : Facts G)  : FnA G P w base 1 "begun" 1 m_begun := by
  rw [m_begun_eq]
  obtain ⟨f, fd, F, hm⟩ := T.f_begun
  exact FnA.of F sc_begun hm (F.binds (ps := ["offices"]) fun _ _ _ _ _ _ us hl => match us, hl with | [_], _ => rfl) (fun cdv A outer s H E c =>
    (ass_one (as_ret (ae_tupRng1 c T.z_tuple T.z_range (ae_var 0)))))

theorem ok_copied (T : Facts G)  : FnA G P w base 1 "copied" 2 m_copied := by
  rw [m_copied_eq]
  obtain ⟨f, fd, F, hm⟩ := T.f_copied
  exact FnA.of F sc_copied hm (F.binds (ps := ["editions", "row"]) fun _ _ _ _ _ _ us hl => match us, hl with | [_, _], _ => rfl) (fun cdv A outer s H E c =>
    (ass_one (as_ret (ae_add (ae_add (ae_slT (ae_var 0) ao_none (ao_some (ae_get (ae_var 1) ae_int))) (ae_tup (aa_cons (ae_get (ae_var 0) (ae_get (ae_var 1) ae_int)) aa_nil))) (ae_slT (ae_var 0) (ao_some (ae_add (ae_get (ae_var 1) ae_int) ae_int)) ao_none)))))

theorem ok_led (T : Facts G) (F_begun : FnA G P w base 1 "begun" 1 m_begun) (F_copied : FnA G P w base 1 "copied" 2 m_copied) : FnA G P w base 2 "led" 2 m_led := by
  rw [m_led_eq]
  obtain ⟨f, fd, F, hm⟩ := T.f_led
  exact FnA.of F sc_led hm (F.binds (ps := ["log", "doing"]) fun _ _ _ _ _ _ us hl => match us, hl with | [_, _], _ => rfl) (fun cdv A outer s H E c =>
    (ass_cons (as_set c 2 (ae_ofL (al_lst (aa_cons (ae_call F_begun c (aa_cons (ae_fld ["Log"] (ae_var 0) (cls1 T.a_Log)) aa_nil) (lCons_len lNil_len)) aa_nil))))
    (ass_cons (as_for c (ai_zip T.z_zip (aa_cons (ae_var 1) (aa_cons (ae_fld ["Log"] (ae_var 0) (cls1 T.a_Log)) aa_nil))) (ag_tup c.calm (ags_cons (ag_name c.nd 3) (ags_cons (ag_name c.nd 4) ags_nil))) (ass_one (as_expr (ae_append (ae_var 2) (aa_cons (ae_if (at_val (ae_var 3)) (ae_call F_copied c (aa_cons (ae_get (ae_var 2) (ae_neg ae_int)) (aa_cons (ae_var 4) aa_nil)) (lCons_len (lCons_len lNil_len))) (ae_get (ae_var 2) (ae_neg ae_int))) aa_nil)))))
    (ass_one (as_ret (ae_var 2))))))

theorem ok_all_sheets (T : Facts G) (F_check_doing : FnA G P w base 3 "check_doing" 2 m_check_doing) (F_led : FnA G P w base 2 "led" 2 m_led) : FnA G P w base 4 "all_sheets" 2 m_all_sheets := by
  rw [m_all_sheets_eq]
  obtain ⟨f, fd, F, hm⟩ := T.f_all_sheets
  exact FnA.of F sc_all_sheets hm (F.binds (ps := ["log", "doing"]) fun _ _ _ _ _ _ us hl => match us, hl with | [_, _], _ => rfl) (fun cdv A outer s H E c =>
    (ass_cons (as_expr (ae_call F_check_doing c (aa_cons (ae_var 0) (aa_cons (ae_var 1) aa_nil)) (lCons_len (lCons_len lNil_len))))
    (ass_one (as_ret (ae_ofL (al_drop (ae_call F_led c (aa_cons (ae_var 0) (aa_cons (ae_var 1) aa_nil)) (lCons_len (lCons_len lNil_len)))))))))

theorem ok__law_put_right (T : Facts G) (F_Archive__m_back : DefA G P w base 1 "Archive" "back" 1 m_Archive__m_back) (F_Archive__m_now : DefA G P w base 1 "Archive" "now" 1 m_Archive__m_now) (F_Archive__m_put : DefA G P w base 9 "Archive" "put" 3 m_Archive__m_put) (F_Archive__m_strike : DefA G P w base 9 "Archive" "strike" 2 m_Archive__m_strike) (F_Log__init : MkA G P w base 5 "Log" 3 m_Log__init) (F_Log__same : EqA G P w base 1 "Log" m_Log__same) (F__law_moved : FnA G P w base 1 "_law_moved" 3 m__law_moved) (F_all_sheets : FnA G P w base 4 "all_sheets" 2 m_all_sheets) : FnA G P w base 10 "_law_put_right" 7 m__law_put_right := by
  rw [m__law_put_right_eq]
  obtain ⟨f, fd, F, hm⟩ := T.f__law_put_right
  exact FnA.of F sc__law_put_right hm (F.binds (ps := ["_law_archive", "_law_offices_here", "_law_rows_here", "_law_finds", "_law_at", "_law_row_here", "_law_doing_here"]) fun _ _ _ _ _ _ us hl => match us, hl with | [_, _, _, _, _, _, _], _ => rfl) (fun cdv A outer s H E c =>
    (ass_cons (as_expr (ae_meth F_Archive__m_put c (ae_var 0) (aa_cons (ae_var 4) (aa_cons (ae_var 5) aa_nil)) (lCons_len (lCons_len lNil_len))))
    (ass_cons (as_asg (ae_meth0 F_Archive__m_now c (ae_var 0)) (ag_tup c.calm (ags_cons (ag_name c.nd 10) (ags_cons (ag_name c.nd 11) ags_nil))))
    (ass_cons (as_if (at_w (aw_or (at_ne c (ae_var 11) (ae_tuple T.z_tuple (aq_ofL (al_comp c (ai_seq (ae_var 3)) [("_law_find_here", 12)] (blkOk_by (N := ["_law_archive", "_law_offices_here", "_law_rows_here", "_law_finds", "_law_at", "_law_row_here", "_law_doing_here", "_law_before", "_law_later", "_law_k", "_law_log", "_law_told", "_law_find_here"]) (sc := (defScope s__law_put_right)) (by decide +kernel)) (fun _ _ _ _ _ => (ag_name (Ctx.blk c _ _ _ _ _).nd 12)) (fun _ _ _ _ _ => ats_nil) (fun _ _ _ _ _ => (ae_call F__law_moved (Ctx.blk c _ _ _ _ _) (aa_cons (ae_var 12) (aa_cons (ae_add (ae_var 4) ae_int) (aa_cons ae_int aa_nil))) (lCons_len (lCons_len (lCons_len lNil_len))))))))) (aw_or1 (at_ne c (ae_fld ["Log"] (ae_var 10) (cls1 T.a_Log)) (ae_add (ae_add (ae_slT (ae_var 2) ao_none (ao_some (ae_var 4))) (ae_tup (aa_cons (ae_var 5) aa_nil))) (ae_slT (ae_var 2) (ao_some (ae_var 4)) ao_none)))))) (ass_one (as_ret ae_bl)) ass_nil)
    (ass_cons (as_set c 7 (ae_ofL (al_drop (ae_call F_all_sheets c (aa_cons (ae_make F_Log__init c (aa_cons (ae_var 1) (aa_cons (ae_var 2) aa_nil)) (lCons_len (lCons_len lNil_len))) (aa_cons (ae_var 6) aa_nil)) (lCons_len (lCons_len lNil_len))))))
    (ass_cons (as_set c 8 (ae_ofL (al_drop (ae_call F_all_sheets c (aa_cons (ae_var 10) (aa_cons (ae_add (ae_add (ae_slT (ae_var 6) ao_none (ao_some (ae_var 4))) (ae_tup (aa_cons ae_bl aa_nil))) (ae_slT (ae_var 6) (ao_some (ae_var 4)) ao_none)) aa_nil)) (lCons_len (lCons_len lNil_len))))))
    (ass_cons (as_for c (ai_range1 T.z_range (aa_cons (ae_len T.z_len (aq_ofE (ae_var 3))) aa_nil)) (ag_name c.nd 9) (ass_one (as_if (at_w (aw_or (at_ne c (ae_get (ae_var 7) (ae_get (ae_get (ae_var 3) (ae_var 9)) ae_int)) (ae_get (ae_var 8) (ae_get (ae_get (ae_var 11) (ae_var 9)) ae_int))) (aw_or1 (at_ne c (ae_le (ae_get (ae_get (ae_var 3) (ae_var 9)) ae_int) (ae_var 4)) (ae_le (ae_get (ae_get (ae_var 11) (ae_var 9)) ae_int) (ae_var 4)))))) (ass_one (as_ret ae_bl)) ass_nil)))
    (ass_cons (as_expr (ae_meth F_Archive__m_strike c (ae_var 0) (aa_cons (ae_var 4) aa_nil) (lCons_len lNil_len)))
    (ass_cons (as_if (at_prN F_Log__same c (ae_meth0 F_Archive__m_now c (ae_var 0)) (ae_tup (aa_cons (ae_make F_Log__init c (aa_cons (ae_var 1) (aa_cons (ae_var 2) aa_nil)) (lCons_len (lCons_len lNil_len))) (aa_cons (ae_var 3) aa_nil)))) (ass_one (as_ret ae_bl)) ass_nil)
    (ass_cons (as_expr (ae_meth0 F_Archive__m_back c (ae_var 0)))
    (ass_cons (as_expr (ae_meth0 F_Archive__m_back c (ae_var 0)))
    (ass_one (as_ret (ae_prE F_Log__same c (ae_meth0 F_Archive__m_now c (ae_var 0)) (ae_tup (aa_cons (ae_make F_Log__init c (aa_cons (ae_var 1) (aa_cons (ae_var 2) aa_nil)) (lCons_len (lCons_len lNil_len))) (aa_cons (ae_var 3) aa_nil)))))))))))))))))

theorem ok_law (T : Facts G) (F_Archive__m_back : DefA G P w base 1 "Archive" "back" 1 m_Archive__m_back) (F_Archive__m_now : DefA G P w base 1 "Archive" "now" 1 m_Archive__m_now) (F_Archive__m_steps : DefA G P w base 1 "Archive" "steps" 1 m_Archive__m_steps) (F_Archive__m_strike : DefA G P w base 9 "Archive" "strike" 2 m_Archive__m_strike) (F_Log__init : MkA G P w base 5 "Log" 3 m_Log__init) (F_Log__same : EqA G P w base 1 "Log" m_Log__same) (F__law_dice : FnA G P w base 1 "_law_dice" 1 m__law_dice) (F__law_doing : FnA G P w base 2 "_law_doing" 2 m__law_doing) (F__law_draw : FnA G P w base 1 "_law_draw" 2 m__law_draw) (F__law_filled : FnA G P w base 10 "_law_filled" 3 m__law_filled) (F__law_find : FnA G P w base 2 "_law_find" 3 m__law_find) (F__law_led : FnA G P w base 1 "_law_led" 3 m__law_led) (F__law_moved : FnA G P w base 1 "_law_moved" 3 m__law_moved) (F__law_put_right : FnA G P w base 10 "_law_put_right" 7 m__law_put_right) (F__law_row : FnA G P w base 2 "_law_row" 3 m__law_row) (F__law_rows : FnA G P w base 3 "_law_rows" 3 m__law_rows) : FnA G P w base 11 "law" 1 m_law := by
  rw [m_law_eq]
  obtain ⟨f, fd, F, hm⟩ := T.f_law
  exact FnA.of F sc_law hm (F.binds (ps := ["_law_script"]) fun _ _ _ _ _ _ us hl => match us, hl with | [_], _ => rfl) (fun cdv A outer s H E c =>
    (ass_cons (as_set c 1 (ae_call F__law_dice c (aa_cons (ae_var 0) aa_nil) (lCons_len lNil_len)))
    (ass_cons (as_set c 2 (ae_add ae_int (ae_call F__law_draw c (aa_cons (ae_var 1) (aa_cons ae_int aa_nil)) (lCons_len (lCons_len lNil_len)))))
    (ass_cons (as_set c 3 (ae_call F__law_rows c (aa_cons (ae_var 1) (aa_cons (ae_var 2) (aa_cons (ae_call F__law_draw c (aa_cons (ae_var 1) (aa_cons ae_int aa_nil)) (lCons_len (lCons_len lNil_len))) aa_nil))) (lCons_len (lCons_len (lCons_len lNil_len)))))
    (ass_cons (as_set c 4 (ae_call F__law_doing c (aa_cons (ae_var 1) (aa_cons (ae_var 3) aa_nil)) (lCons_len (lCons_len lNil_len))))
    (ass_cons (as_set c 5 (ae_ofL (al_drop (ae_call F__law_led c (aa_cons (ae_var 2) (aa_cons (ae_var 3) (aa_cons (ae_var 4) aa_nil))) (lCons_len (lCons_len (lCons_len lNil_len)))))))
    (ass_cons (as_set c 6 (ae_tuple T.z_tuple (aq_ofL (al_comp c (ai_range1 T.z_range (aa_cons (ae_call F__law_draw c (aa_cons (ae_var 1) (aa_cons ae_int aa_nil)) (lCons_len (lCons_len lNil_len))) aa_nil)) [("_law_k", 14)] (blkOk_by (N := ["_law_script", "_law_dice_here", "_law_offices_here", "_law_rows_here", "_law_doing_here", "_law_led_here", "_law_finds", "_law_archive", "_law_at", "_law_x", "_law_y", "_law_sure", "_law_log", "_law_told", "_law_k", "_law_find_here"]) (sc := (defScope s_law)) (by decide +kernel)) (fun _ _ _ _ _ => (ag_name (Ctx.blk c _ _ _ _ _).nd 14)) (fun _ _ _ _ _ => ats_nil) (fun _ _ _ _ _ => (ae_call F__law_find (Ctx.blk c _ _ _ _ _) (aa_cons (ae_var 1) (aa_cons (ae_var 2) (aa_cons (ae_var 5) aa_nil))) (lCons_len (lCons_len (lCons_len lNil_len)))))))))
    (ass_cons (as_set c 7 (ae_call F__law_filled c (aa_cons (ae_var 2) (aa_cons (ae_var 3) (aa_cons (ae_var 6) aa_nil))) (lCons_len (lCons_len (lCons_len lNil_len)))))
    (ass_cons (as_if (at_prN F_Log__same c (ae_meth0 F_Archive__m_now c (ae_var 7)) (ae_tup (aa_cons (ae_make F_Log__init c (aa_cons (ae_var 2) (aa_cons (ae_var 3) aa_nil)) (lCons_len (lCons_len lNil_len))) (aa_cons (ae_var 6) aa_nil)))) (ass_one (as_ret ae_bl)) ass_nil)
    (ass_cons (as_for c (ai_range1 T.z_range (aa_cons (ae_add (ae_len T.z_len (aq_ofE (ae_var 3))) ae_int) aa_nil)) (ag_name c.nd 8) (ass_cons (as_asg (ae_call F__law_row c (aa_cons (ae_var 1) (aa_cons (ae_var 2) (aa_cons ae_int aa_nil))) (lCons_len (lCons_len (lCons_len lNil_len)))) (ag_tup c.calm (ags_cons (ag_name c.nd 9) (ags_cons (ag_name c.nd 10) (ags_cons (ag_name c.nd 11) ags_nil)))))
    (ass_one (as_if (at_not (at_val (ae_call F__law_put_right c (aa_cons (ae_var 7) (aa_cons (ae_var 2) (aa_cons (ae_var 3) (aa_cons (ae_var 6) (aa_cons (ae_var 8) (aa_cons (ae_tup (aa_cons (ae_var 9) (aa_cons (ae_var 10) (aa_cons ae_bl aa_nil)))) (aa_cons (ae_var 4) aa_nil))))))) (lCons_len (lCons_len (lCons_len (lCons_len (lCons_len (lCons_len (lCons_len lNil_len)))))))))) (ass_one (as_ret ae_bl)) ass_nil))))
    (ass_cons (as_for c (ai_range1 T.z_range (aa_cons (ae_len T.z_len (aq_ofE (ae_var 3))) aa_nil)) (ag_name c.nd 8) (ass_cons (as_expr (ae_meth F_Archive__m_strike c (ae_var 7) (aa_cons (ae_var 8) aa_nil) (lCons_len lNil_len)))
    (ass_cons (as_asg (ae_meth0 F_Archive__m_now c (ae_var 7)) (ag_tup c.calm (ags_cons (ag_name c.nd 12) (ags_cons (ag_name c.nd 13) ags_nil))))
    (ass_cons (as_if (at_w (aw_or (at_ne c (ae_fld ["Log"] (ae_var 12) (cls1 T.a_Log)) (ae_add (ae_slT (ae_var 3) ao_none (ao_some (ae_var 8))) (ae_slT (ae_var 3) (ao_some (ae_add (ae_var 8) ae_int)) ao_none))) (aw_or1 (at_ne c (ae_var 13) (ae_tuple T.z_tuple (aq_ofL (al_comp c (ai_seq (ae_var 6)) [("_law_find_here", 15)] (blkOk_by (N := ["_law_script", "_law_dice_here", "_law_offices_here", "_law_rows_here", "_law_doing_here", "_law_led_here", "_law_finds", "_law_archive", "_law_at", "_law_x", "_law_y", "_law_sure", "_law_log", "_law_told", "_law_k", "_law_find_here"]) (sc := (defScope s_law)) (by decide +kernel)) (fun _ _ _ _ _ => (ag_name (Ctx.blk c _ _ _ _ _).nd 15)) (fun _ _ _ _ _ => ats_nil) (fun _ _ _ _ _ => (ae_call F__law_moved (Ctx.blk c _ _ _ _ _) (aa_cons (ae_var 15) (aa_cons (ae_add (ae_var 8) ae_int) (aa_cons (ae_neg ae_int) aa_nil))) (lCons_len (lCons_len (lCons_len lNil_len)))))))))))) (ass_one (as_ret ae_bl)) ass_nil)
    (ass_cons (as_expr (ae_meth0 F_Archive__m_back c (ae_var 7)))
    (ass_one (as_if (at_prN F_Log__same c (ae_meth0 F_Archive__m_now c (ae_var 7)) (ae_tup (aa_cons (ae_make F_Log__init c (aa_cons (ae_var 2) (aa_cons (ae_var 3) aa_nil)) (lCons_len (lCons_len lNil_len))) (aa_cons (ae_var 6) aa_nil)))) (ass_one (as_ret ae_bl)) ass_nil)))))))
    (ass_one (as_ret (ae_eq c (ae_meth0 F_Archive__m_steps c (ae_var 7)) (ae_add (ae_len T.z_len (aq_ofE (ae_var 3))) (ae_len T.z_len (aq_ofE (ae_var 6))))))))))))))))))

end
end TK

set_option Elab.async false
set_option linter.all false
set_option maxRecDepth 100000
set_option maxHeartbeats 4000000
namespace TK
open PySem PySem.Spec
open PyProof.Rows hiding St
open L2
section
variable {P : Program} {w : World} {G : GX} {base : Heap}
theorem okx_law (T : Facts G) {f : Addr} {fd : FuncData} (F : Fun G.K "law" "law" s_law f fd) (F_Archive__m_back : DefA G P w base 1 "Archive" "back" 1 m_Archive__m_back) (F_Archive__m_now : DefA G P w base 1 "Archive" "now" 1 m_Archive__m_now) (F_Archive__m_steps : DefA G P w base 1 "Archive" "steps" 1 m_Archive__m_steps) (F_Archive__m_strike : DefA G P w base 9 "Archive" "strike" 2 m_Archive__m_strike) (F_Log__init : MkA G P w base 5 "Log" 3 m_Log__init) (F_Log__same : EqA G P w base 1 "Log" m_Log__same) (F__law_dice : FnA G P w base 1 "_law_dice" 1 m__law_dice) (F__law_doing : FnA G P w base 2 "_law_doing" 2 m__law_doing) (F__law_draw : FnA G P w base 1 "_law_draw" 2 m__law_draw) (F__law_filled : FnA G P w base 10 "_law_filled" 3 m__law_filled) (F__law_find : FnA G P w base 2 "_law_find" 3 m__law_find) (F__law_led : FnA G P w base 1 "_law_led" 3 m__law_led) (F__law_moved : FnA G P w base 1 "_law_moved" 3 m__law_moved) (F__law_put_right : FnA G P w base 10 "_law_put_right" 7 m__law_put_right) (F__law_row : FnA G P w base 2 "_law_row" 3 m__law_row) (F__law_rows : FnA G P w base 3 "_law_rows" 3 m__law_rows) : FnOk P w G.K G.mg base (L2.CX P w) 11 f fd ["_law_script"] (spA G m_law 1) := by
  rw [m_law_eq]
  exact FnOk.ofA F sc_law (fun cdv A outer s H E c =>
    (ass_cons (as_set c 1 (ae_call F__law_dice c (aa_cons (ae_var 0) aa_nil) (lCons_len lNil_len)))
    (ass_cons (as_set c 2 (ae_add ae_int (ae_call F__law_draw c (aa_cons (ae_var 1) (aa_cons ae_int aa_nil)) (lCons_len (lCons_len lNil_len)))))
    (ass_cons (as_set c 3 (ae_call F__law_rows c (aa_cons (ae_var 1) (aa_cons (ae_var 2) (aa_cons (ae_call F__law_draw c (aa_cons (ae_var 1) (aa_cons ae_int aa_nil)) (lCons_len (lCons_len lNil_len))) aa_nil))) (lCons_len (lCons_len (lCons_len lNil_len)))))
    (ass_cons (as_set c 4 (ae_call F__law_doing c (aa_cons (ae_var 1) (aa_cons (ae_var 3) aa_nil)) (lCons_len (lCons_len lNil_len))))
    (ass_cons (as_set c 5 (ae_ofL (al_drop (ae_call F__law_led c (aa_cons (ae_var 2) (aa_cons (ae_var 3) (aa_cons (ae_var 4) aa_nil))) (lCons_len (lCons_len (lCons_len lNil_len)))))))
    (ass_cons (as_set c 6 (ae_tuple T.z_tuple (aq_ofL (al_comp c (ai_range1 T.z_range (aa_cons (ae_call F__law_draw c (aa_cons (ae_var 1) (aa_cons ae_int aa_nil)) (lCons_len (lCons_len lNil_len))) aa_nil)) [("_law_k", 14)] (blkOk_by (N := ["_law_script", "_law_dice_here", "_law_offices_here", "_law_rows_here", "_law_doing_here", "_law_led_here", "_law_finds", "_law_archive", "_law_at", "_law_x", "_law_y", "_law_sure", "_law_log", "_law_told", "_law_k", "_law_find_here"]) (sc := (defScope s_law)) (by decide +kernel)) (fun _ _ _ _ _ => (ag_name (Ctx.blk c _ _ _ _ _).nd 14)) (fun _ _ _ _ _ => ats_nil) (fun _ _ _ _ _ => (ae_call F__law_find (Ctx.blk c _ _ _ _ _) (aa_cons (ae_var 1) (aa_cons (ae_var 2) (aa_cons (ae_var 5) aa_nil))) (lCons_len (lCons_len (lCons_len lNil_len)))))))))
    (ass_cons (as_set c 7 (ae_call F__law_filled c (aa_cons (ae_var 2) (aa_cons (ae_var 3) (aa_cons (ae_var 6) aa_nil))) (lCons_len (lCons_len (lCons_len lNil_len)))))
    (ass_cons (as_if (at_prN F_Log__same c (ae_meth0 F_Archive__m_now c (ae_var 7)) (ae_tup (aa_cons (ae_make F_Log__init c (aa_cons (ae_var 2) (aa_cons (ae_var 3) aa_nil)) (lCons_len (lCons_len lNil_len))) (aa_cons (ae_var 6) aa_nil)))) (ass_one (as_ret ae_bl)) ass_nil)
    (ass_cons (as_for c (ai_range1 T.z_range (aa_cons (ae_add (ae_len T.z_len (aq_ofE (ae_var 3))) ae_int) aa_nil)) (ag_name c.nd 8) (ass_cons (as_asg (ae_call F__law_row c (aa_cons (ae_var 1) (aa_cons (ae_var 2) (aa_cons ae_int aa_nil))) (lCons_len (lCons_len (lCons_len lNil_len)))) (ag_tup c.calm (ags_cons (ag_name c.nd 9) (ags_cons (ag_name c.nd 10) (ags_cons (ag_name c.nd 11) ags_nil)))))
    (ass_one (as_if (at_not (at_val (ae_call F__law_put_right c (aa_cons (ae_var 7) (aa_cons (ae_var 2) (aa_cons (ae_var 3) (aa_cons (ae_var 6) (aa_cons (ae_var 8) (aa_cons (ae_tup (aa_cons (ae_var 9) (aa_cons (ae_var 10) (aa_cons ae_bl aa_nil)))) (aa_cons (ae_var 4) aa_nil))))))) (lCons_len (lCons_len (lCons_len (lCons_len (lCons_len (lCons_len (lCons_len lNil_len)))))))))) (ass_one (as_ret ae_bl)) ass_nil))))
    (ass_cons (as_for c (ai_range1 T.z_range (aa_cons (ae_len T.z_len (aq_ofE (ae_var 3))) aa_nil)) (ag_name c.nd 8) (ass_cons (as_expr (ae_meth F_Archive__m_strike c (ae_var 7) (aa_cons (ae_var 8) aa_nil) (lCons_len lNil_len)))
    (ass_cons (as_asg (ae_meth0 F_Archive__m_now c (ae_var 7)) (ag_tup c.calm (ags_cons (ag_name c.nd 12) (ags_cons (ag_name c.nd 13) ags_nil))))
    (ass_cons (as_if (at_w (aw_or (at_ne c (ae_fld ["Log"] (ae_var 12) (cls1 T.a_Log)) (ae_add (ae_slT (ae_var 3) ao_none (ao_some (ae_var 8))) (ae_slT (ae_var 3) (ao_some (ae_add (ae_var 8) ae_int)) ao_none))) (aw_or1 (at_ne c (ae_var 13) (ae_tuple T.z_tuple (aq_ofL (al_comp c (ai_seq (ae_var 6)) [("_law_find_here", 15)] (blkOk_by (N := ["_law_script", "_law_dice_here", "_law_offices_here", "_law_rows_here", "_law_doing_here", "_law_led_here", "_law_finds", "_law_archive", "_law_at", "_law_x", "_law_y", "_law_sure", "_law_log", "_law_told", "_law_k", "_law_find_here"]) (sc := (defScope s_law)) (by decide +kernel)) (fun _ _ _ _ _ => (ag_name (Ctx.blk c _ _ _ _ _).nd 15)) (fun _ _ _ _ _ => ats_nil) (fun _ _ _ _ _ => (ae_call F__law_moved (Ctx.blk c _ _ _ _ _) (aa_cons (ae_var 15) (aa_cons (ae_add (ae_var 8) ae_int) (aa_cons (ae_neg ae_int) aa_nil))) (lCons_len (lCons_len (lCons_len lNil_len)))))))))))) (ass_one (as_ret ae_bl)) ass_nil)
    (ass_cons (as_expr (ae_meth0 F_Archive__m_back c (ae_var 7)))
    (ass_one (as_if (at_prN F_Log__same c (ae_meth0 F_Archive__m_now c (ae_var 7)) (ae_tup (aa_cons (ae_make F_Log__init c (aa_cons (ae_var 2) (aa_cons (ae_var 3) aa_nil)) (lCons_len (lCons_len lNil_len))) (aa_cons (ae_var 6) aa_nil)))) (ass_one (as_ret ae_bl)) ass_nil)))))))
    (ass_one (as_ret (ae_eq c (ae_meth0 F_Archive__m_steps c (ae_var 7)) (ae_add (ae_len T.z_len (aq_ofE (ae_var 3))) (ae_len T.z_len (aq_ofE (ae_var 6))))))))))))))))))
theorem okx_all (T : Facts G) {f : Addr} {fd : FuncData} (F : Fun G.K "law" "law" s_law f fd) : FnOk P w G.K G.mg base (L2.CX P w) 11 f fd ["_law_script"] (spA G m_law 1) := by
  have F_is_integer : FnA G P w base 1 "is_integer" 1 m_is_integer := ok_is_integer T 
  have F_is_within : FnA G P w base 2 "is_within" 3 m_is_within := ok_is_within T F_is_integer
  have F_is_triple : FnA G P w base 1 "is_triple" 1 m_is_triple := ok_is_triple T 
  have F_is_flag : FnA G P w base 1 "is_flag" 1 m_is_flag := ok_is_flag T 
  have F_is_row : FnA G P w base 3 "is_row" 2 m_is_row := ok_is_row T F_is_flag F_is_triple F_is_within
  have F_first_bad : FnA G P w base 4 "first_bad" 2 m_first_bad := ok_first_bad T F_is_row
  have F_Log__init : MkA G P w base 5 "Log" 3 m_Log__init := ok_Log__init T F_first_bad F_is_within
  have F_Log__same : EqA G P w base 1 "Log" m_Log__same := ok_Log__same T 
  have F_Archive__m_now : DefA G P w base 1 "Archive" "now" 1 m_Archive__m_now := ok_Archive__m_now T 
  have F_check_row : FnA G P w base 3 "check_row" 2 m_check_row := ok_check_row T F_is_within
  have F_raw_log : FnA G P w base 7 "raw_log" 2 m_raw_log := ok_raw_log T F_Log__init
  have F_without : FnA G P w base 8 "without" 2 m_without := ok_without T F_check_row F_raw_log
  have F_moved_find : FnA G P w base 1 "moved_find" 3 m_moved_find := ok_moved_find T 
  have F_Archive__m_change : DefA G P w base 1 "Archive" "change" 3 m_Archive__m_change := ok_Archive__m_change T 
  have F_Archive__m_strike : DefA G P w base 9 "Archive" "strike" 2 m_Archive__m_strike := ok_Archive__m_strike T F_Archive__m_change F_check_row F_moved_find F_without
  have F_Archive__m_back : DefA G P w base 1 "Archive" "back" 1 m_Archive__m_back := ok_Archive__m_back T 
  have F_Archive__m_steps : DefA G P w base 1 "Archive" "steps" 1 m_Archive__m_steps := ok_Archive__m_steps T 
  have F__law_dice : FnA G P w base 1 "_law_dice" 1 m__law_dice := ok__law_dice T 
  have F__law_draw : FnA G P w base 1 "_law_draw" 2 m__law_draw := ok__law_draw T 
  have F__law_row : FnA G P w base 2 "_law_row" 3 m__law_row := ok__law_row T F__law_draw
  have F__law_rows : FnA G P w base 3 "_law_rows" 3 m__law_rows := ok__law_rows T F__law_draw F__law_row
  have F__law_doing : FnA G P w base 2 "_law_doing" 2 m__law_doing := ok__law_doing T F__law_draw
  have F__law_led : FnA G P w base 1 "_law_led" 3 m__law_led := ok__law_led T 
  have F__law_find : FnA G P w base 2 "_law_find" 3 m__law_find := ok__law_find T F__law_draw
  have F__law_moved : FnA G P w base 1 "_law_moved" 3 m__law_moved := ok__law_moved T 
  have F_check_number : FnA G P w base 3 "check_number" 3 m_check_number := ok_check_number T F_is_within
  have F_Archive__init : MkA G P w base 7 "Archive" 2 m_Archive__init := ok_Archive__init T F_Log__init F_check_number
  have F_check_most : FnA G P w base 1 "check_most" 2 m_check_most := ok_check_most T 
  have F_with_row : FnA G P w base 8 "with_row" 3 m_with_row := ok_with_row T F_is_row F_is_within F_raw_log
  have F_Archive__m_put : DefA G P w base 9 "Archive" "put" 3 m_Archive__m_put := ok_Archive__m_put T F_Archive__m_change F_check_most F_moved_find F_with_row
  have F_is_find : FnA G P w base 3 "is_find" 2 m_is_find := ok_is_find T F_is_triple F_is_within
  have F_Archive__m_show : DefA G P w base 4 "Archive" "show" 2 m_Archive__m_show := ok_Archive__m_show T F_Archive__m_change F_check_most F_is_find
  have F__law_filled : FnA G P w base 10 "_law_filled" 3 m__law_filled := ok__law_filled T F_Archive__init F_Archive__m_now F_Archive__m_put F_Archive__m_show
  have F_is_doing : FnA G P w base 2 "is_doing" 2 m_is_doing := ok_is_doing T F_is_flag
  have F_check_doing : FnA G P w base 3 "check_doing" 2 m_check_doing := ok_check_doing T F_is_doing
  have F_begun : FnA G P w base 1 "begun" 1 m_begun := ok_begun T 
  have F_copied : FnA G P w base 1 "copied" 2 m_copied := ok_copied T 
  have F_led : FnA G P w base 2 "led" 2 m_led := ok_led T F_begun F_copied
  have F_all_sheets : FnA G P w base 4 "all_sheets" 2 m_all_sheets := ok_all_sheets T F_check_doing F_led
  have F__law_put_right : FnA G P w base 10 "_law_put_right" 7 m__law_put_right := ok__law_put_right T F_Archive__m_back F_Archive__m_now F_Archive__m_put F_Archive__m_strike F_Log__init F_Log__same F__law_moved F_all_sheets
  exact okx_law T F F_Archive__m_back F_Archive__m_now F_Archive__m_steps F_Archive__m_strike F_Log__init F_Log__same F__law_dice F__law_doing F__law_draw F__law_filled F__law_find F__law_led F__law_moved F__law_put_right F__law_row F__law_rows
end
theorem all_mk {P : Program} {w : World} {K : PySem.W.Frag} {h : Heap} {mg : Str → Option Value} {fa : Addr} (X : K.In h) (N : h.Ns mainGlobals mg) (hfa : mg "law" = some (.ref fa)) (hk : noListK K = true) (hm : ∀ ns : List Int, ns.length ≤ 63 → ∃ st', m_law [.ref 0] [.rol (ns.map D.int)] = .ok (.bl true) st')
    (z_abs : PySem.W.nsIn K mainGlobals "abs" = some none)
    (z_all : PySem.W.nsIn K mainGlobals "all" = some none)
    (z_bool : PySem.W.nsIn K mainGlobals "bool" = some none)
    (z_enumerate : PySem.W.nsIn K mainGlobals "enumerate" = some none)
    (z_int : PySem.W.nsIn K mainGlobals "int" = some none)
    (z_isinstance : PySem.W.nsIn K mainGlobals "isinstance" = some none)
    (z_len : PySem.W.nsIn K mainGlobals "len" = some none)
    (z_list : PySem.W.nsIn K mainGlobals "list" = some none)
    (z_range : PySem.W.nsIn K mainGlobals "range" = some none)
    (z_tuple : PySem.W.nsIn K mainGlobals "tuple" = some none)
    (z_zip : PySem.W.nsIn K mainGlobals "zip" = some none)
    {ct_MOST_FINDS : _} (c_MOST_FINDS : PySem.W.nsIn K mainGlobals "MOST_FINDS" = some (some (.int 40 ct_MOST_FINDS)))
    {ct_MOST_OFFICES : _} (c_MOST_OFFICES : PySem.W.nsIn K mainGlobals "MOST_OFFICES" = some (some (.int 12 ct_MOST_OFFICES)))
    {ct_MOST_ROWS : _} (c_MOST_ROWS : PySem.W.nsIn K mainGlobals "MOST_ROWS" = some (some (.int 60 ct_MOST_ROWS)))
    {f_is_integer : Addr} {od_is_integer an_is_integer : Option Addr} {sl_is_integer : Array (Option Value)} {oc_is_integer kV_is_integer dc_is_integer pm_is_integer cd_is_integer ct_is_integer : Value} (fa_is_integer : PySem.W.nsIn K mainGlobals "is_integer" = some (some (.ref f_is_integer))) (fl_is_integer : K.lookup f_is_integer = some ⟨oc_is_integer, od_is_integer, .func (PySem.W.fnOf "is_integer" "is_integer" (defArgs s_is_integer) (defBody s_is_integer) (defScope s_is_integer) .none kV_is_integer dc_is_integer pm_is_integer an_is_integer cd_is_integer ct_is_integer), sl_is_integer⟩) (fc_is_integer : PySem.W.codeIn K cd_is_integer "is_integer" = true) (fk_is_integer : PySem.W.keepIn K (.ref f_is_integer) = true)
    {f_is_within : Addr} {od_is_within an_is_within : Option Addr} {sl_is_within : Array (Option Value)} {oc_is_within kV_is_within dc_is_within pm_is_within cd_is_within ct_is_within : Value} (fa_is_within : PySem.W.nsIn K mainGlobals "is_within" = some (some (.ref f_is_within))) (fl_is_within : K.lookup f_is_within = some ⟨oc_is_within, od_is_within, .func (PySem.W.fnOf "is_within" "is_within" (defArgs s_is_within) (defBody s_is_within) (defScope s_is_within) .none kV_is_within dc_is_within pm_is_within an_is_within cd_is_within ct_is_within), sl_is_within⟩) (fc_is_within : PySem.W.codeIn K cd_is_within "is_within" = true) (fk_is_within : PySem.W.keepIn K (.ref f_is_within) = true)
    {f_is_triple : Addr} {od_is_triple an_is_triple : Option Addr} {sl_is_triple : Array (Option Value)} {oc_is_triple kV_is_triple dc_is_triple pm_is_triple cd_is_triple ct_is_triple : Value} (fa_is_triple : PySem.W.nsIn K mainGlobals "is_triple" = some (some (.ref f_is_triple))) (fl_is_triple : K.lookup f_is_triple = some ⟨oc_is_triple, od_is_triple, .func (PySem.W.fnOf "is_triple" "is_triple" (defArgs s_is_triple) (defBody s_is_triple) (defScope s_is_triple) .none kV_is_triple dc_is_triple pm_is_triple an_is_triple cd_is_triple ct_is_triple), sl_is_triple⟩) (fc_is_triple : PySem.W.codeIn K cd_is_triple "is_triple" = true) (fk_is_triple : PySem.W.keepIn K (.ref f_is_triple) = true)
    {f_is_flag : Addr} {od_is_flag an_is_flag : Option Addr} {sl_is_flag : Array (Option Value)} {oc_is_flag kV_is_flag dc_is_flag pm_is_flag cd_is_flag ct_is_flag : Value} (fa_is_flag : PySem.W.nsIn K mainGlobals "is_flag" = some (some (.ref f_is_flag))) (fl_is_flag : K.lookup f_is_flag = some ⟨oc_is_flag, od_is_flag, .func (PySem.W.fnOf "is_flag" "is_flag" (defArgs s_is_flag) (defBody s_is_flag) (defScope s_is_flag) .none kV_is_flag dc_is_flag pm_is_flag an_is_flag cd_is_flag ct_is_flag), sl_is_flag⟩) (fc_is_flag : PySem.W.codeIn K cd_is_flag "is_flag" = true) (fk_is_flag : PySem.W.keepIn K (.ref f_is_flag) = true)
    {f_is_row : Addr} {od_is_row an_is_row : Option Addr} {sl_is_row : Array (Option Value)} {oc_is_row kV_is_row dc_is_row pm_is_row cd_is_row ct_is_row : Value} (fa_is_row : PySem.W.nsIn K mainGlobals "is_row" = some (some (.ref f_is_row))) (fl_is_row : K.lookup f_is_row = some ⟨oc_is_row, od_is_row, .func (PySem.W.fnOf "is_row" "is_row" (defArgs s_is_row) (defBody s_is_row) (defScope s_is_row) .none kV_is_row dc_is_row pm_is_row an_is_row cd_is_row ct_is_row), sl_is_row⟩) (fc_is_row : PySem.W.codeIn K cd_is_row "is_row" = true) (fk_is_row : PySem.W.keepIn K (.ref f_is_row) = true)
    {f_first_bad : Addr} {od_first_bad an_first_bad : Option Addr} {sl_first_bad : Array (Option Value)} {oc_first_bad kV_first_bad dc_first_bad pm_first_bad cd_first_bad ct_first_bad : Value} (fa_first_bad : PySem.W.nsIn K mainGlobals "first_bad" = some (some (.ref f_first_bad))) (fl_first_bad : K.lookup f_first_bad = some ⟨oc_first_bad, od_first_bad, .func (PySem.W.fnOf "first_bad" "first_bad" (defArgs s_first_bad) (defBody s_first_bad) (defScope s_first_bad) .none kV_first_bad dc_first_bad pm_first_bad an_first_bad cd_first_bad ct_first_bad), sl_first_bad⟩) (fc_first_bad : PySem.W.codeIn K cd_first_bad "first_bad" = true) (fk_first_bad : PySem.W.keepIn K (.ref f_first_bad) = true)
    {C_Log fi_Log : Addr} {od_Log__init an_Log__init : Option Addr} {sl_Log__init : Array (Option Value)} {oc_Log__init kV_Log__init dc_Log__init pm_Log__init cd_Log__init ct_Log__init : Value} (ka_Log : PySem.W.nsIn K mainGlobals "Log" = some (some (.ref C_Log))) (ki_Log : PySem.W.findIn K (.ref C_Log) "__init__" = some (some (.ref fi_Log))) (kf_Log : PySem.W.isFn K (.ref fi_Log) = true) (kl_Log : K.lookup fi_Log = some ⟨oc_Log__init, od_Log__init, .func (PySem.W.fnOf "__init__" "Log.__init__" (defArgs s_Log__init) (defBody s_Log__init) (defScope s_Log__init) .none kV_Log__init dc_Log__init pm_Log__init an_Log__init cd_Log__init ct_Log__init), sl_Log__init⟩) (kc_Log : PySem.W.codeIn K cd_Log__init "Log.__init__" = true) (kk_Log : PySem.W.keepIn K (.ref fi_Log) = true) (km_Log : PySem.W.makesIn K C_Log = true) (kq_Log : PySem.W.keepIn K (.ref C_Log) = true) (kp_Log : PySem.W.plainGet K C_Log Str.empty = true) (kh_Log : PySem.W.hasDictIn K C_Log = true) (ko_Log : PySem.W.plainOver K C_Log = true) (ks_Log : PySem.W.findIn K (.ref C_Log) "__setattr__" = some (some (.builtin "object.__setattr__"))) (kn_Log_offices : PySem.W.findIn K (.ref C_Log) "offices" = some none) (kn_Log_rows : PySem.W.findIn K (.ref C_Log) "rows" = some none)
    {f_check_row : Addr} {od_check_row an_check_row : Option Addr} {sl_check_row : Array (Option Value)} {oc_check_row kV_check_row dc_check_row pm_check_row cd_check_row ct_check_row : Value} (fa_check_row : PySem.W.nsIn K mainGlobals "check_row" = some (some (.ref f_check_row))) (fl_check_row : K.lookup f_check_row = some ⟨oc_check_row, od_check_row, .func (PySem.W.fnOf "check_row" "check_row" (defArgs s_check_row) (defBody s_check_row) (defScope s_check_row) .none kV_check_row dc_check_row pm_check_row an_check_row cd_check_row ct_check_row), sl_check_row⟩) (fc_check_row : PySem.W.codeIn K cd_check_row "check_row" = true) (fk_check_row : PySem.W.keepIn K (.ref f_check_row) = true)
    {f_raw_log : Addr} {od_raw_log an_raw_log : Option Addr} {sl_raw_log : Array (Option Value)} {oc_raw_log kV_raw_log dc_raw_log pm_raw_log cd_raw_log ct_raw_log : Value} (fa_raw_log : PySem.W.nsIn K mainGlobals "raw_log" = some (some (.ref f_raw_log))) (fl_raw_log : K.lookup f_raw_log = some ⟨oc_raw_log, od_raw_log, .func (PySem.W.fnOf "raw_log" "raw_log" (defArgs s_raw_log) (defBody s_raw_log) (defScope s_raw_log) .none kV_raw_log dc_raw_log pm_raw_log an_raw_log cd_raw_log ct_raw_log), sl_raw_log⟩) (fc_raw_log : PySem.W.codeIn K cd_raw_log "raw_log" = true) (fk_raw_log : PySem.W.keepIn K (.ref f_raw_log) = true)
    {f_without : Addr} {od_without an_without : Option Addr} {sl_without : Array (Option Value)} {oc_without kV_without dc_without pm_without cd_without ct_without : Value} (fa_without : PySem.W.nsIn K mainGlobals "without" = some (some (.ref f_without))) (fl_without : K.lookup f_without = some ⟨oc_without, od_without, .func (PySem.W.fnOf "without" "without" (defArgs s_without) (defBody s_without) (defScope s_without) .none kV_without dc_without pm_without an_without cd_without ct_without), sl_without⟩) (fc_without : PySem.W.codeIn K cd_without "without" = true) (fk_without : PySem.W.keepIn K (.ref f_without) = true)
    {f_moved_find : Addr} {od_moved_find an_moved_find : Option Addr} {sl_moved_find : Array (Option Value)} {oc_moved_find kV_moved_find dc_moved_find pm_moved_find cd_moved_find ct_moved_find : Value} (fa_moved_find : PySem.W.nsIn K mainGlobals "moved_find" = some (some (.ref f_moved_find))) (fl_moved_find : K.lookup f_moved_find = some ⟨oc_moved_find, od_moved_find, .func (PySem.W.fnOf "moved_find" "moved_find" (defArgs s_moved_find) (defBody s_moved_find) (defScope s_moved_find) .none kV_moved_find dc_moved_find pm_moved_find an_moved_find cd_moved_find ct_moved_find), sl_moved_find⟩) (fc_moved_find : PySem.W.codeIn K cd_moved_find "moved_find" = true) (fk_moved_find : PySem.W.keepIn K (.ref f_moved_find) = true)
    {f__law_dice : Addr} {od__law_dice an__law_dice : Option Addr} {sl__law_dice : Array (Option Value)} {oc__law_dice kV__law_dice dc__law_dice pm__law_dice cd__law_dice ct__law_dice : Value} (fa__law_dice : PySem.W.nsIn K mainGlobals "_law_dice" = some (some (.ref f__law_dice))) (fl__law_dice : K.lookup f__law_dice = some ⟨oc__law_dice, od__law_dice, .func (PySem.W.fnOf "_law_dice" "_law_dice" (defArgs s__law_dice) (defBody s__law_dice) (defScope s__law_dice) .none kV__law_dice dc__law_dice pm__law_dice an__law_dice cd__law_dice ct__law_dice), sl__law_dice⟩) (fc__law_dice : PySem.W.codeIn K cd__law_dice "_law_dice" = true) (fk__law_dice : PySem.W.keepIn K (.ref f__law_dice) = true)
    {f__law_draw : Addr} {od__law_draw an__law_draw : Option Addr} {sl__law_draw : Array (Option Value)} {oc__law_draw kV__law_draw dc__law_draw pm__law_draw cd__law_draw ct__law_draw : Value} (fa__law_draw : PySem.W.nsIn K mainGlobals "_law_draw" = some (some (.ref f__law_draw))) (fl__law_draw : K.lookup f__law_draw = some ⟨oc__law_draw, od__law_draw, .func (PySem.W.fnOf "_law_draw" "_law_draw" (defArgs s__law_draw) (defBody s__law_draw) (defScope s__law_draw) .none kV__law_draw dc__law_draw pm__law_draw an__law_draw cd__law_draw ct__law_draw), sl__law_draw⟩) (fc__law_draw : PySem.W.codeIn K cd__law_draw "_law_draw" = true) (fk__law_draw : PySem.W.keepIn K (.ref f__law_draw) = true)
    {f__law_row : Addr} {od__law_row an__law_row : Option Addr} {sl__law_row : Array (Option Value)} {oc__law_row kV__law_row dc__law_row pm__law_row cd__law_row ct__law_row : Value} (fa__law_row : PySem.W.nsIn K mainGlobals "_law_row" = some (some (.ref f__law_row))) (fl__law_row : K.lookup f__law_row = some ⟨oc__law_row, od__law_row, .func (PySem.W.fnOf "_law_row" "_law_row" (defArgs s__law_row) (defBody s__law_row) (defScope s__law_row) .none kV__law_row dc__law_row pm__law_row an__law_row cd__law_row ct__law_row), sl__law_row⟩) (fc__law_row : PySem.W.codeIn K cd__law_row "_law_row" = true) (fk__law_row : PySem.W.keepIn K (.ref f__law_row) = true)
    {f__law_rows : Addr} {od__law_rows an__law_rows : Option Addr} {sl__law_rows : Array (Option Value)} {oc__law_rows kV__law_rows dc__law_rows pm__law_rows cd__law_rows ct__law_rows : Value} (fa__law_rows : PySem.W.nsIn K mainGlobals "_law_rows" = some (some (.ref f__law_rows))) (fl__law_rows : K.lookup f__law_rows = some ⟨oc__law_rows, od__law_rows, .func (PySem.W.fnOf "_law_rows" "_law_rows" (defArgs s__law_rows) (defBody s__law_rows) (defScope s__law_rows) .none kV__law_rows dc__law_rows pm__law_rows an__law_rows cd__law_rows ct__law_rows), sl__law_rows⟩) (fc__law_rows : PySem.W.codeIn K cd__law_rows "_law_rows" = true) (fk__law_rows : PySem.W.keepIn K (.ref f__law_rows) = true)
    {f__law_doing : Addr} {od__law_doing an__law_doing : Option Addr} {sl__law_doing : Array (Option Value)} {oc__law_doing kV__law_doing dc__law_doing pm__law_doing cd__law_doing ct__law_doing : Value} (fa__law_doing : PySem.W.nsIn K mainGlobals "_law_doing" = some (some (.ref f__law_doing))) (fl__law_doing : K.lookup f__law_doing = some ⟨oc__law_doing, od__law_doing, .func (PySem.W.fnOf "_law_doing" "_law_doing" (defArgs s__law_doing) (defBody s__law_doing) (defScope s__law_doing) .none kV__law_doing dc__law_doing pm__law_doing an__law_doing cd__law_doing ct__law_doing), sl__law_doing⟩) (fc__law_doing : PySem.W.codeIn K cd__law_doing "_law_doing" = true) (fk__law_doing : PySem.W.keepIn K (.ref f__law_doing) = true)
    {f__law_led : Addr} {od__law_led an__law_led : Option Addr} {sl__law_led : Array (Option Value)} {oc__law_led kV__law_led dc__law_led pm__law_led cd__law_led ct__law_led : Value} (fa__law_led : PySem.W.nsIn K mainGlobals "_law_led" = some (some (.ref f__law_led))) (fl__law_led : K.lookup f__law_led = some ⟨oc__law_led, od__law_led, .func (PySem.W.fnOf "_law_led" "_law_led" (defArgs s__law_led) (defBody s__law_led) (defScope s__law_led) .none kV__law_led dc__law_led pm__law_led an__law_led cd__law_led ct__law_led), sl__law_led⟩) (fc__law_led : PySem.W.codeIn K cd__law_led "_law_led" = true) (fk__law_led : PySem.W.keepIn K (.ref f__law_led) = true)
    {f__law_find : Addr} {od__law_find an__law_find : Option Addr} {sl__law_find : Array (Option Value)} {oc__law_find kV__law_find dc__law_find pm__law_find cd__law_find ct__law_find : Value} (fa__law_find : PySem.W.nsIn K mainGlobals "_law_find" = some (some (.ref f__law_find))) (fl__law_find : K.lookup f__law_find = some ⟨oc__law_find, od__law_find, .func (PySem.W.fnOf "_law_find" "_law_find" (defArgs s__law_find) (defBody s__law_find) (defScope s__law_find) .none kV__law_find dc__law_find pm__law_find an__law_find cd__law_find ct__law_find), sl__law_find⟩) (fc__law_find : PySem.W.codeIn K cd__law_find "_law_find" = true) (fk__law_find : PySem.W.keepIn K (.ref f__law_find) = true)
    {f__law_moved : Addr} {od__law_moved an__law_moved : Option Addr} {sl__law_moved : Array (Option Value)} {oc__law_moved kV__law_moved dc__law_moved pm__law_moved cd__law_moved ct__law_moved : Value} (fa__law_moved : PySem.W.nsIn K mainGlobals "_law_moved" = some (some (.ref f__law_moved))) (fl__law_moved : K.lookup f__law_moved = some ⟨oc__law_moved, od__law_moved, .func (PySem.W.fnOf "_law_moved" "_law_moved" (defArgs s__law_moved) (defBody s__law_moved) (defScope s__law_moved) .none kV__law_moved dc__law_moved pm__law_moved an__law_moved cd__law_moved ct__law_moved), sl__law_moved⟩) (fc__law_moved : PySem.W.codeIn K cd__law_moved "_law_moved" = true) (fk__law_moved : PySem.W.keepIn K (.ref f__law_moved) = true)
    {f_check_number : Addr} {od_check_number an_check_number : Option Addr} {sl_check_number : Array (Option Value)} {oc_check_number kV_check_number dc_check_number pm_check_number cd_check_number ct_check_number : Value} (fa_check_number : PySem.W.nsIn K mainGlobals "check_number" = some (some (.ref f_check_number))) (fl_check_number : K.lookup f_check_number = some ⟨oc_check_number, od_check_number, .func (PySem.W.fnOf "check_number" "check_number" (defArgs s_check_number) (defBody s_check_number) (defScope s_check_number) .none kV_check_number dc_check_number pm_check_number an_check_number cd_check_number ct_check_number), sl_check_number⟩) (fc_check_number : PySem.W.codeIn K cd_check_number "check_number" = true) (fk_check_number : PySem.W.keepIn K (.ref f_check_number) = true)
    {C_Archive fi_Archive : Addr} {od_Archive__init an_Archive__init : Option Addr} {sl_Archive__init : Array (Option Value)} {oc_Archive__init kV_Archive__init dc_Archive__init pm_Archive__init cd_Archive__init ct_Archive__init : Value} (ka_Archive : PySem.W.nsIn K mainGlobals "Archive" = some (some (.ref C_Archive))) (ki_Archive : PySem.W.findIn K (.ref C_Archive) "__init__" = some (some (.ref fi_Archive))) (kf_Archive : PySem.W.isFn K (.ref fi_Archive) = true) (kl_Archive : K.lookup fi_Archive = some ⟨oc_Archive__init, od_Archive__init, .func (PySem.W.fnOf "__init__" "Archive.__init__" (defArgs s_Archive__init) (defBody s_Archive__init) (defScope s_Archive__init) .none kV_Archive__init dc_Archive__init pm_Archive__init an_Archive__init cd_Archive__init ct_Archive__init), sl_Archive__init⟩) (kc_Archive : PySem.W.codeIn K cd_Archive__init "Archive.__init__" = true) (kk_Archive : PySem.W.keepIn K (.ref fi_Archive) = true) (km_Archive : PySem.W.makesIn K C_Archive = true) (kq_Archive : PySem.W.keepIn K (.ref C_Archive) = true) (kp_Archive : PySem.W.plainGet K C_Archive Str.empty = true) (kh_Archive : PySem.W.hasDictIn K C_Archive = true) (ko_Archive : PySem.W.plainOver K C_Archive = true) (ks_Archive : PySem.W.findIn K (.ref C_Archive) "__setattr__" = some (some (.builtin "object.__setattr__"))) (kn_Archive_pair : PySem.W.findIn K (.ref C_Archive) "pair" = some none) (kn_Archive_past : PySem.W.findIn K (.ref C_Archive) "past" = some none)
    {f_check_most : Addr} {od_check_most an_check_most : Option Addr} {sl_check_most : Array (Option Value)} {oc_check_most kV_check_most dc_check_most pm_check_most cd_check_most ct_check_most : Value} (fa_check_most : PySem.W.nsIn K mainGlobals "check_most" = some (some (.ref f_check_most))) (fl_check_most : K.lookup f_check_most = some ⟨oc_check_most, od_check_most, .func (PySem.W.fnOf "check_most" "check_most" (defArgs s_check_most) (defBody s_check_most) (defScope s_check_most) .none kV_check_most dc_check_most pm_check_most an_check_most cd_check_most ct_check_most), sl_check_most⟩) (fc_check_most : PySem.W.codeIn K cd_check_most "check_most" = true) (fk_check_most : PySem.W.keepIn K (.ref f_check_most) = true)
    {f_with_row : Addr} {od_with_row an_with_row : Option Addr} {sl_with_row : Array (Option Value)} {oc_with_row kV_with_row dc_with_row pm_with_row cd_with_row ct_with_row : Value} (fa_with_row : PySem.W.nsIn K mainGlobals "with_row" = some (some (.ref f_with_row))) (fl_with_row : K.lookup f_with_row = some ⟨oc_with_row, od_with_row, .func (PySem.W.fnOf "with_row" "with_row" (defArgs s_with_row) (defBody s_with_row) (defScope s_with_row) .none kV_with_row dc_with_row pm_with_row an_with_row cd_with_row ct_with_row), sl_with_row⟩) (fc_with_row : PySem.W.codeIn K cd_with_row "with_row" = true) (fk_with_row : PySem.W.keepIn K (.ref f_with_row) = true)
    {f_is_find : Addr} {od_is_find an_is_find : Option Addr} {sl_is_find : Array (Option Value)} {oc_is_find kV_is_find dc_is_find pm_is_find cd_is_find ct_is_find : Value} (fa_is_find : PySem.W.nsIn K mainGlobals "is_find" = some (some (.ref f_is_find))) (fl_is_find : K.lookup f_is_find = some ⟨oc_is_find, od_is_find, .func (PySem.W.fnOf "is_find" "is_find" (defArgs s_is_find) (defBody s_is_find) (defScope s_is_find) .none kV_is_find dc_is_find pm_is_find an_is_find cd_is_find ct_is_find), sl_is_find⟩) (fc_is_find : PySem.W.codeIn K cd_is_find "is_find" = true) (fk_is_find : PySem.W.keepIn K (.ref f_is_find) = true)
    {f__law_filled : Addr} {od__law_filled an__law_filled : Option Addr} {sl__law_filled : Array (Option Value)} {oc__law_filled kV__law_filled dc__law_filled pm__law_filled cd__law_filled ct__law_filled : Value} (fa__law_filled : PySem.W.nsIn K mainGlobals "_law_filled" = some (some (.ref f__law_filled))) (fl__law_filled : K.lookup f__law_filled = some ⟨oc__law_filled, od__law_filled, .func (PySem.W.fnOf "_law_filled" "_law_filled" (defArgs s__law_filled) (defBody s__law_filled) (defScope s__law_filled) .none kV__law_filled dc__law_filled pm__law_filled an__law_filled cd__law_filled ct__law_filled), sl__law_filled⟩) (fc__law_filled : PySem.W.codeIn K cd__law_filled "_law_filled" = true) (fk__law_filled : PySem.W.keepIn K (.ref f__law_filled) = true)
    {f_is_doing : Addr} {od_is_doing an_is_doing : Option Addr} {sl_is_doing : Array (Option Value)} {oc_is_doing kV_is_doing dc_is_doing pm_is_doing cd_is_doing ct_is_doing : Value} (fa_is_doing : PySem.W.nsIn K mainGlobals "is_doing" = some (some (.ref f_is_doing))) (fl_is_doing : K.lookup f_is_doing = some ⟨oc_is_doing, od_is_doing, .func (PySem.W.fnOf "is_doing" "is_doing" (defArgs s_is_doing) (defBody s_is_doing) (defScope s_is_doing) .none kV_is_doing dc_is_doing pm_is_doing an_is_doing cd_is_doing ct_is_doing), sl_is_doing⟩) (fc_is_doing : PySem.W.codeIn K cd_is_doing "is_doing" = true) (fk_is_doing : PySem.W.keepIn K (.ref f_is_doing) = true)
    {f_check_doing : Addr} {od_check_doing an_check_doing : Option Addr} {sl_check_doing : Array (Option Value)} {oc_check_doing kV_check_doing dc_check_doing pm_check_doing cd_check_doing ct_check_doing : Value} (fa_check_doing : PySem.W.nsIn K mainGlobals "check_doing" = some (some (.ref f_check_doing))) (fl_check_doing : K.lookup f_check_doing = some ⟨oc_check_doing, od_check_doing, .func (PySem.W.fnOf "check_doing" "check_doing" (defArgs s_check_doing) (defBody s_check_doing) (defScope s_check_doing) .none kV_check_doing dc_check_doing pm_check_doing an_check_doing cd_check_doing ct_check_doing), sl_check_doing⟩) (fc_check_doing : PySem.W.codeIn K cd_check_doing "check_doing" = true) (fk_check_doing : PySem.W.keepIn K (.ref f_check_doing) = true)
    {f_begun : Addr} {od_begun an_begun : Option Addr} {sl_begun : Array (Option Value)} {oc_begun kV_begun dc_begun pm_begun cd_begun ct_begun : Value} (fa_begun : PySem.W.nsIn K mainGlobals "begun" = some (some (.ref f_begun))) (fl_begun : K.lookup f_begun = some ⟨oc_begun, od_begun, .func (PySem.W.fnOf "begun" "begun" (defArgs s_begun) (defBody s_begun) (defScope s_begun) .none kV_begun dc_begun pm_begun an_begun cd_begun ct_begun), sl_begun⟩) (fc_begun : PySem.W.codeIn K cd_begun "begun" = true) (fk_begun : PySem.W.keepIn K (.ref f_begun) = true)
    {f_copied : Addr} {od_copied an_copied : Option Addr} {sl_copied : Array (Option Value)} {oc_copied kV_copied dc_copied pm_copied cd_copied ct_copied : Value} (fa_copied : PySem.W.nsIn K mainGlobals "copied" = some (some (.ref f_copied))) (fl_copied : K.lookup f_copied = some ⟨oc_copied, od_copied, .func (PySem.W.fnOf "copied" "copied" (defArgs s_copied) (defBody s_copied) (defScope s_copied) .none kV_copied dc_copied pm_copied an_copied cd_copied ct_copied), sl_copied⟩) (fc_copied : PySem.W.codeIn K cd_copied "copied" = true) (fk_copied : PySem.W.keepIn K (.ref f_copied) = true)
    {f_led : Addr} {od_led an_led : Option Addr} {sl_led : Array (Option Value)} {oc_led kV_led dc_led pm_led cd_led ct_led : Value} (fa_led : PySem.W.nsIn K mainGlobals "led" = some (some (.ref f_led))) (fl_led : K.lookup f_led = some ⟨oc_led, od_led, .func (PySem.W.fnOf "led" "led" (defArgs s_led) (defBody s_led) (defScope s_led) .none kV_led dc_led pm_led an_led cd_led ct_led), sl_led⟩) (fc_led : PySem.W.codeIn K cd_led "led" = true) (fk_led : PySem.W.keepIn K (.ref f_led) = true)
    {f_all_sheets : Addr} {od_all_sheets an_all_sheets : Option Addr} {sl_all_sheets : Array (Option Value)} {oc_all_sheets kV_all_sheets dc_all_sheets pm_all_sheets cd_all_sheets ct_all_sheets : Value} (fa_all_sheets : PySem.W.nsIn K mainGlobals "all_sheets" = some (some (.ref f_all_sheets))) (fl_all_sheets : K.lookup f_all_sheets = some ⟨oc_all_sheets, od_all_sheets, .func (PySem.W.fnOf "all_sheets" "all_sheets" (defArgs s_all_sheets) (defBody s_all_sheets) (defScope s_all_sheets) .none kV_all_sheets dc_all_sheets pm_all_sheets an_all_sheets cd_all_sheets ct_all_sheets), sl_all_sheets⟩) (fc_all_sheets : PySem.W.codeIn K cd_all_sheets "all_sheets" = true) (fk_all_sheets : PySem.W.keepIn K (.ref f_all_sheets) = true)
    {f__law_put_right : Addr} {od__law_put_right an__law_put_right : Option Addr} {sl__law_put_right : Array (Option Value)} {oc__law_put_right kV__law_put_right dc__law_put_right pm__law_put_right cd__law_put_right ct__law_put_right : Value} (fa__law_put_right : PySem.W.nsIn K mainGlobals "_law_put_right" = some (some (.ref f__law_put_right))) (fl__law_put_right : K.lookup f__law_put_right = some ⟨oc__law_put_right, od__law_put_right, .func (PySem.W.fnOf "_law_put_right" "_law_put_right" (defArgs s__law_put_right) (defBody s__law_put_right) (defScope s__law_put_right) .none kV__law_put_right dc__law_put_right pm__law_put_right an__law_put_right cd__law_put_right ct__law_put_right), sl__law_put_right⟩) (fc__law_put_right : PySem.W.codeIn K cd__law_put_right "_law_put_right" = true) (fk__law_put_right : PySem.W.keepIn K (.ref f__law_put_right) = true)
    {f_law : Addr} {od_law an_law : Option Addr} {sl_law : Array (Option Value)} {oc_law kV_law dc_law pm_law cd_law ct_law : Value} (fa_law : PySem.W.nsIn K mainGlobals "law" = some (some (.ref f_law))) (fl_law : K.lookup f_law = some ⟨oc_law, od_law, .func (PySem.W.fnOf "law" "law" (defArgs s_law) (defBody s_law) (defScope s_law) .none kV_law dc_law pm_law an_law cd_law ct_law), sl_law⟩) (fc_law : PySem.W.codeIn K cd_law "law" = true) (fk_law : PySem.W.keepIn K (.ref f_law) = true)
    {fq_Log : Addr} {od_Log__same an_Log__same : Option Addr} {sl_Log__same : Array (Option Value)} {oc_Log__same kV_Log__same dc_Log__same pm_Log__same cd_Log__same ct_Log__same : Value} (qi_Log : PySem.W.findIn K (.ref C_Log) "__eq__" = some (some (.ref fq_Log))) (qf_Log : PySem.W.isFn K (.ref fq_Log) = true) (ql_Log : K.lookup fq_Log = some ⟨oc_Log__same, od_Log__same, .func (PySem.W.fnOf "__eq__" "Log.__eq__" (defArgs s_Log__same) (defBody s_Log__same) (defScope s_Log__same) .none kV_Log__same dc_Log__same pm_Log__same an_Log__same cd_Log__same ct_Log__same), sl_Log__same⟩) (qc_Log : PySem.W.codeIn K cd_Log__same "Log.__eq__" = true) (qk_Log : PySem.W.keepIn K (.ref fq_Log) = true)
    {fm_Archive__m_now : Addr} {od_Archive__m_now an_Archive__m_now : Option Addr} {sl_Archive__m_now : Array (Option Value)} {oc_Archive__m_now kV_Archive__m_now dc_Archive__m_now pm_Archive__m_now cd_Archive__m_now ct_Archive__m_now : Value} (mi_Archive__m_now : PySem.W.findIn K (.ref C_Archive) "now" = some (some (.ref fm_Archive__m_now))) (mf_Archive__m_now : PySem.W.isFn K (.ref fm_Archive__m_now) = true) (ml_Archive__m_now : K.lookup fm_Archive__m_now = some ⟨oc_Archive__m_now, od_Archive__m_now, .func (PySem.W.fnOf "now" "Archive.now" (defArgs s_Archive__m_now) (defBody s_Archive__m_now) (defScope s_Archive__m_now) .none kV_Archive__m_now dc_Archive__m_now pm_Archive__m_now an_Archive__m_now cd_Archive__m_now ct_Archive__m_now), sl_Archive__m_now⟩) (mc_Archive__m_now : PySem.W.codeIn K cd_Archive__m_now "Archive.now" = true) (mk_Archive__m_now : PySem.W.keepIn K (.ref fm_Archive__m_now) = true)
    {fm_Archive__m_change : Addr} {od_Archive__m_change an_Archive__m_change : Option Addr} {sl_Archive__m_change : Array (Option Value)} {oc_Archive__m_change kV_Archive__m_change dc_Archive__m_change pm_Archive__m_change cd_Archive__m_change ct_Archive__m_change : Value} (mi_Archive__m_change : PySem.W.findIn K (.ref C_Archive) "change" = some (some (.ref fm_Archive__m_change))) (mf_Archive__m_change : PySem.W.isFn K (.ref fm_Archive__m_change) = true) (ml_Archive__m_change : K.lookup fm_Archive__m_change = some ⟨oc_Archive__m_change, od_Archive__m_change, .func (PySem.W.fnOf "change" "Archive.change" (defArgs s_Archive__m_change) (defBody s_Archive__m_change) (defScope s_Archive__m_change) .none kV_Archive__m_change dc_Archive__m_change pm_Archive__m_change an_Archive__m_change cd_Archive__m_change ct_Archive__m_change), sl_Archive__m_change⟩) (mc_Archive__m_change : PySem.W.codeIn K cd_Archive__m_change "Archive.change" = true) (mk_Archive__m_change : PySem.W.keepIn K (.ref fm_Archive__m_change) = true)
    {fm_Archive__m_strike : Addr} {od_Archive__m_strike an_Archive__m_strike : Option Addr} {sl_Archive__m_strike : Array (Option Value)} {oc_Archive__m_strike kV_Archive__m_strike dc_Archive__m_strike pm_Archive__m_strike cd_Archive__m_strike ct_Archive__m_strike : Value} (mi_Archive__m_strike : PySem.W.findIn K (.ref C_Archive) "strike" = some (some (.ref fm_Archive__m_strike))) (mf_Archive__m_strike : PySem.W.isFn K (.ref fm_Archive__m_strike) = true) (ml_Archive__m_strike : K.lookup fm_Archive__m_strike = some ⟨oc_Archive__m_strike, od_Archive__m_strike, .func (PySem.W.fnOf "strike" "Archive.strike" (defArgs s_Archive__m_strike) (defBody s_Archive__m_strike) (defScope s_Archive__m_strike) .none kV_Archive__m_strike dc_Archive__m_strike pm_Archive__m_strike an_Archive__m_strike cd_Archive__m_strike ct_Archive__m_strike), sl_Archive__m_strike⟩) (mc_Archive__m_strike : PySem.W.codeIn K cd_Archive__m_strike "Archive.strike" = true) (mk_Archive__m_strike : PySem.W.keepIn K (.ref fm_Archive__m_strike) = true)
    {fm_Archive__m_back : Addr} {od_Archive__m_back an_Archive__m_back : Option Addr} {sl_Archive__m_back : Array (Option Value)} {oc_Archive__m_back kV_Archive__m_back dc_Archive__m_back pm_Archive__m_back cd_Archive__m_back ct_Archive__m_back : Value} (mi_Archive__m_back : PySem.W.findIn K (.ref C_Archive) "back" = some (some (.ref fm_Archive__m_back))) (mf_Archive__m_back : PySem.W.isFn K (.ref fm_Archive__m_back) = true) (ml_Archive__m_back : K.lookup fm_Archive__m_back = some ⟨oc_Archive__m_back, od_Archive__m_back, .func (PySem.W.fnOf "back" "Archive.back" (defArgs s_Archive__m_back) (defBody s_Archive__m_back) (defScope s_Archive__m_back) .none kV_Archive__m_back dc_Archive__m_back pm_Archive__m_back an_Archive__m_back cd_Archive__m_back ct_Archive__m_back), sl_Archive__m_back⟩) (mc_Archive__m_back : PySem.W.codeIn K cd_Archive__m_back "Archive.back" = true) (mk_Archive__m_back : PySem.W.keepIn K (.ref fm_Archive__m_back) = true)
    {fm_Archive__m_steps : Addr} {od_Archive__m_steps an_Archive__m_steps : Option Addr} {sl_Archive__m_steps : Array (Option Value)} {oc_Archive__m_steps kV_Archive__m_steps dc_Archive__m_steps pm_Archive__m_steps cd_Archive__m_steps ct_Archive__m_steps : Value} (mi_Archive__m_steps : PySem.W.findIn K (.ref C_Archive) "steps" = some (some (.ref fm_Archive__m_steps))) (mf_Archive__m_steps : PySem.W.isFn K (.ref fm_Archive__m_steps) = true) (ml_Archive__m_steps : K.lookup fm_Archive__m_steps = some ⟨oc_Archive__m_steps, od_Archive__m_steps, .func (PySem.W.fnOf "steps" "Archive.steps" (defArgs s_Archive__m_steps) (defBody s_Archive__m_steps) (defScope s_Archive__m_steps) .none kV_Archive__m_steps dc_Archive__m_steps pm_Archive__m_steps an_Archive__m_steps cd_Archive__m_steps ct_Archive__m_steps), sl_Archive__m_steps⟩) (mc_Archive__m_steps : PySem.W.codeIn K cd_Archive__m_steps "Archive.steps" = true) (mk_Archive__m_steps : PySem.W.keepIn K (.ref fm_Archive__m_steps) = true)
    {fm_Archive__m_put : Addr} {od_Archive__m_put an_Archive__m_put : Option Addr} {sl_Archive__m_put : Array (Option Value)} {oc_Archive__m_put kV_Archive__m_put dc_Archive__m_put pm_Archive__m_put cd_Archive__m_put ct_Archive__m_put : Value} (mi_Archive__m_put : PySem.W.findIn K (.ref C_Archive) "put" = some (some (.ref fm_Archive__m_put))) (mf_Archive__m_put : PySem.W.isFn K (.ref fm_Archive__m_put) = true) (ml_Archive__m_put : K.lookup fm_Archive__m_put = some ⟨oc_Archive__m_put, od_Archive__m_put, .func (PySem.W.fnOf "put" "Archive.put" (defArgs s_Archive__m_put) (defBody s_Archive__m_put) (defScope s_Archive__m_put) .none kV_Archive__m_put dc_Archive__m_put pm_Archive__m_put an_Archive__m_put cd_Archive__m_put ct_Archive__m_put), sl_Archive__m_put⟩) (mc_Archive__m_put : PySem.W.codeIn K cd_Archive__m_put "Archive.put" = true) (mk_Archive__m_put : PySem.W.keepIn K (.ref fm_Archive__m_put) = true)
    {fm_Archive__m_show : Addr} {od_Archive__m_show an_Archive__m_show : Option Addr} {sl_Archive__m_show : Array (Option Value)} {oc_Archive__m_show kV_Archive__m_show dc_Archive__m_show pm_Archive__m_show cd_Archive__m_show ct_Archive__m_show : Value} (mi_Archive__m_show : PySem.W.findIn K (.ref C_Archive) "show" = some (some (.ref fm_Archive__m_show))) (mf_Archive__m_show : PySem.W.isFn K (.ref fm_Archive__m_show) = true) (ml_Archive__m_show : K.lookup fm_Archive__m_show = some ⟨oc_Archive__m_show, od_Archive__m_show, .func (PySem.W.fnOf "show" "Archive.show" (defArgs s_Archive__m_show) (defBody s_Archive__m_show) (defScope s_Archive__m_show) .none kV_Archive__m_show dc_Archive__m_show pm_Archive__m_show an_Archive__m_show cd_Archive__m_show ct_Archive__m_show), sl_Archive__m_show⟩) (mc_Archive__m_show : PySem.W.codeIn K cd_Archive__m_show "Archive.show" = true) (mk_Archive__m_show : PySem.W.keepIn K (.ref fm_Archive__m_show) = true)
    (jc_Log : PySem.W.findIn K (.ref C_Log) "__class__" = some (some (.builtin "object.__class__"))) (js_Log : PySem.W.specialIn K (.builtin "object.__class__") "__get__" = some (some (.builtin "getset_descriptor.__get__"))) (jt_Log : PySem.W.takesIn K (.builtin "object.__class__") = some true) (jm_Log : PySem.W.mroIn K C_Log (.type "object") = some true) (jo_Log : PySem.W.kitOne K (.ref C_Log) (.ref C_Log) = some true)
    {C_BadRow : Addr} (xa_BadRow : PySem.W.nsIn K mainGlobals "BadRow" = some (some (.ref C_BadRow))) (xe_BadRow : PySem.W.excIn K C_BadRow HandSPX.veTail "ValueError.__new__" = true) (xk_BadRow : PySem.W.keepIn K (.ref C_BadRow) = true) (xs_BadRow : PySem.W.subIn K (.ref C_BadRow) (.type "BaseException") = some true) (xt_BadRow : PySem.W.typeIn K (.ref C_BadRow) = some (.type "type"))
    {C_NoDoing : Addr} (xa_NoDoing : PySem.W.nsIn K mainGlobals "NoDoing" = some (some (.ref C_NoDoing))) (xe_NoDoing : PySem.W.excIn K C_NoDoing HandSPX.veTail "ValueError.__new__" = true) (xk_NoDoing : PySem.W.keepIn K (.ref C_NoDoing) = true) (xs_NoDoing : PySem.W.subIn K (.ref C_NoDoing) (.type "BaseException") = some true) (xt_NoDoing : PySem.W.typeIn K (.ref C_NoDoing) = some (.type "type"))
    {C_NoFind : Addr} (xa_NoFind : PySem.W.nsIn K mainGlobals "NoFind" = some (some (.ref C_NoFind))) (xe_NoFind : PySem.W.excIn K C_NoFind HandSPX.veTail "ValueError.__new__" = true) (xk_NoFind : PySem.W.keepIn K (.ref C_NoFind) = true) (xs_NoFind : PySem.W.subIn K (.ref C_NoFind) (.type "BaseException") = some true) (xt_NoFind : PySem.W.typeIn K (.ref C_NoFind) = some (.type "type"))
    {C_NoNumber : Addr} (xa_NoNumber : PySem.W.nsIn K mainGlobals "NoNumber" = some (some (.ref C_NoNumber))) (xe_NoNumber : PySem.W.excIn K C_NoNumber HandSPX.veTail "ValueError.__new__" = true) (xk_NoNumber : PySem.W.keepIn K (.ref C_NoNumber) = true) (xs_NoNumber : PySem.W.subIn K (.ref C_NoNumber) (.type "BaseException") = some true) (xt_NoNumber : PySem.W.typeIn K (.ref C_NoNumber) = some (.type "type"))
    {C_NoRow : Addr} (xa_NoRow : PySem.W.nsIn K mainGlobals "NoRow" = some (some (.ref C_NoRow))) (xe_NoRow : PySem.W.excIn K C_NoRow HandSPX.veTail "ValueError.__new__" = true) (xk_NoRow : PySem.W.keepIn K (.ref C_NoRow) = true) (xs_NoRow : PySem.W.subIn K (.ref C_NoRow) (.type "BaseException") = some true) (xt_NoRow : PySem.W.typeIn K (.ref C_NoRow) = some (.type "type"))
    {C_NothingDone : Addr} (xa_NothingDone : PySem.W.nsIn K mainGlobals "NothingDone" = some (some (.ref C_NothingDone))) (xe_NothingDone : PySem.W.excIn K C_NothingDone HandSPX.veTail "ValueError.__new__" = true) (xk_NothingDone : PySem.W.keepIn K (.ref C_NothingDone) = true) (xs_NothingDone : PySem.W.subIn K (.ref C_NothingDone) (.type "BaseException") = some true) (xt_NothingDone : PySem.W.typeIn K (.ref C_NothingDone) = some (.type "type")) :
    ∃ fd : FuncData, (∀ (s : Shared) (v : Value), BindsTo s fd ⟨[v], []⟩ [("_law_script", v)]) ∧ ∀ base : Heap, K.In base → base.Ns mainGlobals mg → FnOk P w K mg base (L2.CX P w) 11 fa fd ["_law_script"] (spEnd K 63) := by
  have e := hfa.symm.trans (PySem.W.mg_of X N fa_law)
  cases e
  have T : Facts ⟨K, mg⟩ := { z_abs := PySem.W.mg_none_of X N z_abs, z_all := PySem.W.mg_none_of X N z_all, z_bool := PySem.W.mg_none_of X N z_bool, z_enumerate := PySem.W.mg_none_of X N z_enumerate, z_int := PySem.W.mg_none_of X N z_int, z_isinstance := PySem.W.mg_none_of X N z_isinstance, z_len := PySem.W.mg_none_of X N z_len, z_list := PySem.W.mg_none_of X N z_list, z_range := PySem.W.mg_none_of X N z_range, z_tuple := PySem.W.mg_none_of X N z_tuple, z_zip := PySem.W.mg_none_of X N z_zip, c_MOST_FINDS := ⟨_, PySem.W.mg_of X N c_MOST_FINDS⟩, c_MOST_OFFICES := ⟨_, PySem.W.mg_of X N c_MOST_OFFICES⟩, c_MOST_ROWS := ⟨_, PySem.W.mg_of X N c_MOST_ROWS⟩, f_is_integer := funF_of X N fa_is_integer fl_is_integer fc_is_integer fk_is_integer, f_is_within := funF_of X N fa_is_within fl_is_within fc_is_within fk_is_within, f_is_triple := funF_of X N fa_is_triple fl_is_triple fc_is_triple fk_is_triple, f_is_flag := funF_of X N fa_is_flag fl_is_flag fc_is_flag fk_is_flag, f_is_row := funF_of X N fa_is_row fl_is_row fc_is_row fk_is_row, f_first_bad := funF_of X N fa_first_bad fl_first_bad fc_first_bad fk_first_bad, i_Log := clsF_of X N ka_Log ki_Log kf_Log kl_Log kc_Log kk_Log km_Log kq_Log, a_Log := clsA_of X N ka_Log kp_Log kh_Log ko_Log ks_Log (fun f hf => by simp only [List.mem_cons, List.not_mem_nil, or_false] at hf; rcases hf with rfl | rfl; exact kn_Log_offices; exact kn_Log_rows), f_check_row := funF_of X N fa_check_row fl_check_row fc_check_row fk_check_row, f_raw_log := funF_of X N fa_raw_log fl_raw_log fc_raw_log fk_raw_log, f_without := funF_of X N fa_without fl_without fc_without fk_without, f_moved_find := funF_of X N fa_moved_find fl_moved_find fc_moved_find fk_moved_find, f__law_dice := funF_of X N fa__law_dice fl__law_dice fc__law_dice fk__law_dice, f__law_draw := funF_of X N fa__law_draw fl__law_draw fc__law_draw fk__law_draw, f__law_row := funF_of X N fa__law_row fl__law_row fc__law_row fk__law_row, f__law_rows := funF_of X N fa__law_rows fl__law_rows fc__law_rows fk__law_rows, f__law_doing := funF_of X N fa__law_doing fl__law_doing fc__law_doing fk__law_doing, f__law_led := funF_of X N fa__law_led fl__law_led fc__law_led fk__law_led, f__law_find := funF_of X N fa__law_find fl__law_find fc__law_find fk__law_find, f__law_moved := funF_of X N fa__law_moved fl__law_moved fc__law_moved fk__law_moved, f_check_number := funF_of X N fa_check_number fl_check_number fc_check_number fk_check_number, i_Archive := clsF_of X N ka_Archive ki_Archive kf_Archive kl_Archive kc_Archive kk_Archive km_Archive kq_Archive, a_Archive := clsA_of X N ka_Archive kp_Archive kh_Archive ko_Archive ks_Archive (fun f hf => by simp only [List.mem_cons, List.not_mem_nil, or_false] at hf; rcases hf with rfl | rfl; exact kn_Archive_pair; exact kn_Archive_past), f_check_most := funF_of X N fa_check_most fl_check_most fc_check_most fk_check_most, f_with_row := funF_of X N fa_with_row fl_with_row fc_with_row fk_with_row, f_is_find := funF_of X N fa_is_find fl_is_find fc_is_find fk_is_find, f__law_filled := funF_of X N fa__law_filled fl__law_filled fc__law_filled fk__law_filled, f_is_doing := funF_of X N fa_is_doing fl_is_doing fc_is_doing fk_is_doing, f_check_doing := funF_of X N fa_check_doing fl_check_doing fc_check_doing fk_check_doing, f_begun := funF_of X N fa_begun fl_begun fc_begun fk_begun, f_copied := funF_of X N fa_copied fl_copied fc_copied fk_copied, f_led := funF_of X N fa_led fl_led fc_led fk_led, f_all_sheets := funF_of X N fa_all_sheets fl_all_sheets fc_all_sheets fk_all_sheets, f__law_put_right := funF_of X N fa__law_put_right fl__law_put_right fc__law_put_right fk__law_put_right, f_law := funF_of X N fa_law fl_law fc_law fk_law, q_Log := eqF_of X N ka_Log qi_Log qf_Log ql_Log qc_Log qk_Log, d_Archive__m_now := metF_of X N ka_Archive kp_Archive kh_Archive ko_Archive ks_Archive mi_Archive__m_now mf_Archive__m_now ml_Archive__m_now mc_Archive__m_now mk_Archive__m_now, d_Archive__m_change := metF_of X N ka_Archive kp_Archive kh_Archive ko_Archive ks_Archive mi_Archive__m_change mf_Archive__m_change ml_Archive__m_change mc_Archive__m_change mk_Archive__m_change, d_Archive__m_strike := metF_of X N ka_Archive kp_Archive kh_Archive ko_Archive ks_Archive mi_Archive__m_strike mf_Archive__m_strike ml_Archive__m_strike mc_Archive__m_strike mk_Archive__m_strike, d_Archive__m_back := metF_of X N ka_Archive kp_Archive kh_Archive ko_Archive ks_Archive mi_Archive__m_back mf_Archive__m_back ml_Archive__m_back mc_Archive__m_back mk_Archive__m_back, d_Archive__m_steps := metF_of X N ka_Archive kp_Archive kh_Archive ko_Archive ks_Archive mi_Archive__m_steps mf_Archive__m_steps ml_Archive__m_steps mc_Archive__m_steps mk_Archive__m_steps, d_Archive__m_put := metF_of X N ka_Archive kp_Archive kh_Archive ko_Archive ks_Archive mi_Archive__m_put mf_Archive__m_put ml_Archive__m_put mc_Archive__m_put mk_Archive__m_put, d_Archive__m_show := metF_of X N ka_Archive kp_Archive kh_Archive ko_Archive ks_Archive mi_Archive__m_show mf_Archive__m_show ml_Archive__m_show mc_Archive__m_show mk_Archive__m_show, j_Log := insF_of X N ka_Log kp_Log kh_Log ko_Log ks_Log jc_Log js_Log jt_Log jm_Log jo_Log, x_BadRow := raiF_of X N xa_BadRow xe_BadRow xk_BadRow xs_BadRow xt_BadRow, x_NoDoing := raiF_of X N xa_NoDoing xe_NoDoing xk_NoDoing xs_NoDoing xt_NoDoing, x_NoFind := raiF_of X N xa_NoFind xe_NoFind xk_NoFind xs_NoFind xt_NoFind, x_NoNumber := raiF_of X N xa_NoNumber xe_NoNumber xk_NoNumber xs_NoNumber xt_NoNumber, x_NoRow := raiF_of X N xa_NoRow xe_NoRow xk_NoRow xs_NoRow xt_NoRow, x_NothingDone := raiF_of X N xa_NothingDone xe_NothingDone xk_NothingDone xs_NothingDone xt_NothingDone }
  have FL := fun_mk (st := s_law) fl_law fc_law fk_law
  exact ⟨_, fun s v => .of_eq rfl, fun base _ _ => FnOk.atEnd (okx_all (G := ⟨K, mg⟩) T FL) hk hm⟩
end TK
open PySem PySem.W PyProof.Rows
def TK.LawT : Prop := ∀ ns : List Int, ns.length ≤ 63 → ∃ st', TK.m_law [.ref 0] [.rol (ns.map TK.D.int)] = .ok (.bl true) st'
set_option maxHeartbeats 0 in
theorem PySem.Challenge.cw_takenover_k84_whole_moments_that_are_shi_holds : PySem.Challenge.rw_takenover_k84_whole_moments_that_are_shi.Holds := by
  w_on; o_law; k_head; (case hw => w_witness2)
  k_fill
  refine L2.walk_of (l := PySem.Challenge.rw_takenover_k84_whole_moments_that_are_shi) (n := 63) (k := 11) (x := "_law_script") (CX := fun w => L2.CX (PySem.Challenge.rw_takenover_k84_whole_moments_that_are_shi).prog w) (sp := fun w => TK.spEnd _ 63) rfl (by decide) rfl ⟨rfl, by decide, by decide⟩ (fun w h Y => PySem.W.kIn_of Y) ?F (fun _ _ a ns hl hO hS => ⟨a, ns, rfl, hl, hO, hS, fun _ => rfl⟩) (fun _ H s e s' z => TK.CX_no H s e s' z)
  case F =>
    intro w mg fa h KX G hmg
    refine' TK.all_mk KX G hmg ?hk TK.law_thm ?z_abs ?z_all ?z_bool ?z_enumerate ?z_int ?z_isinstance ?z_len ?z_list ?z_range ?z_tuple ?z_zip ?c_MOST_FINDS ?c_MOST_OFFICES ?c_MOST_ROWS ?fa_is_integer ?fl_is_integer ?fc_is_integer ?fk_is_integer ?fa_is_within ?fl_is_within ?fc_is_within ?fk_is_within ?fa_is_triple ?fl_is_triple ?fc_is_triple ?fk_is_triple ?fa_is_flag ?fl_is_flag ?fc_is_flag ?fk_is_flag ?fa_is_row ?fl_is_row ?fc_is_row ?fk_is_row ?fa_first_bad ?fl_first_bad ?fc_first_bad ?fk_first_bad ?ka_Log ?ki_Log ?kf_Log ?kl_Log ?kc_Log ?kk_Log ?km_Log ?kq_Log ?kp_Log ?kh_Log ?ko_Log ?ks_Log ?kn_Log_offices ?kn_Log_rows ?fa_check_row ?fl_check_row ?fc_check_row ?fk_check_row ?fa_raw_log ?fl_raw_log ?fc_raw_log ?fk_raw_log ?fa_without ?fl_without ?fc_without ?fk_without ?fa_moved_find ?fl_moved_find ?fc_moved_find ?fk_moved_find ?fa__law_dice ?fl__law_dice ?fc__law_dice ?fk__law_dice ?fa__law_draw ?fl__law_draw ?fc__law_draw ?fk__law_draw ?fa__law_row ?fl__law_row ?fc__law_row ?fk__law_row ?fa__law_rows ?fl__law_rows ?fc__law_rows ?fk__law_rows ?fa__law_doing ?fl__law_doing ?fc__law_doing ?fk__law_doing ?fa__law_led ?fl__law_led ?fc__law_led ?fk__law_led ?fa__law_find ?fl__law_find ?fc__law_find ?fk__law_find ?fa__law_moved ?fl__law_moved ?fc__law_moved ?fk__law_moved ?fa_check_number ?fl_check_number ?fc_check_number ?fk_check_number ?ka_Archive ?ki_Archive ?kf_Archive ?kl_Archive ?kc_Archive ?kk_Archive ?km_Archive ?kq_Archive ?kp_Archive ?kh_Archive ?ko_Archive ?ks_Archive ?kn_Archive_pair ?kn_Archive_past ?fa_check_most ?fl_check_most ?fc_check_most ?fk_check_most ?fa_with_row ?fl_with_row ?fc_with_row ?fk_with_row ?fa_is_find ?fl_is_find ?fc_is_find ?fk_is_find ?fa__law_filled ?fl__law_filled ?fc__law_filled ?fk__law_filled ?fa_is_doing ?fl_is_doing ?fc_is_doing ?fk_is_doing ?fa_check_doing ?fl_check_doing ?fc_check_doing ?fk_check_doing ?fa_begun ?fl_begun ?fc_begun ?fk_begun ?fa_copied ?fl_copied ?fc_copied ?fk_copied ?fa_led ?fl_led ?fc_led ?fk_led ?fa_all_sheets ?fl_all_sheets ?fc_all_sheets ?fk_all_sheets ?fa__law_put_right ?fl__law_put_right ?fc__law_put_right ?fk__law_put_right ?fa_law ?fl_law ?fc_law ?fk_law ?qi_Log ?qf_Log ?ql_Log ?qc_Log ?qk_Log ?mi_Archive__m_now ?mf_Archive__m_now ?ml_Archive__m_now ?mc_Archive__m_now ?mk_Archive__m_now ?mi_Archive__m_change ?mf_Archive__m_change ?ml_Archive__m_change ?mc_Archive__m_change ?mk_Archive__m_change ?mi_Archive__m_strike ?mf_Archive__m_strike ?ml_Archive__m_strike ?mc_Archive__m_strike ?mk_Archive__m_strike ?mi_Archive__m_back ?mf_Archive__m_back ?ml_Archive__m_back ?mc_Archive__m_back ?mk_Archive__m_back ?mi_Archive__m_steps ?mf_Archive__m_steps ?ml_Archive__m_steps ?mc_Archive__m_steps ?mk_Archive__m_steps ?mi_Archive__m_put ?mf_Archive__m_put ?ml_Archive__m_put ?mc_Archive__m_put ?mk_Archive__m_put ?mi_Archive__m_show ?mf_Archive__m_show ?ml_Archive__m_show ?mc_Archive__m_show ?mk_Archive__m_show ?jc_Log ?js_Log ?jt_Log ?jm_Log ?jo_Log ?xa_BadRow ?xe_BadRow ?xk_BadRow ?xs_BadRow ?xt_BadRow ?xa_NoDoing ?xe_NoDoing ?xk_NoDoing ?xs_NoDoing ?xt_NoDoing ?xa_NoFind ?xe_NoFind ?xk_NoFind ?xs_NoFind ?xt_NoFind ?xa_NoNumber ?xe_NoNumber ?xk_NoNumber ?xs_NoNumber ?xt_NoNumber ?xa_NoRow ?xe_NoRow ?xk_NoRow ?xs_NoRow ?xt_NoRow ?xa_NothingDone ?xe_NothingDone ?xk_NothingDone ?xs_NothingDone ?xt_NothingDone
    (case hk => kernel_rfl); (case z_abs => k_is); (case z_all => k_is); (case z_bool => k_is); (case z_enumerate => k_is); (case z_int => k_is); (case z_isinstance => k_is); (case z_len => k_is); (case z_list => k_is); (case z_range => k_is); (case z_tuple => k_is); (case z_zip => k_is); (case c_MOST_FINDS => k_is); (case c_MOST_OFFICES => k_is); (case c_MOST_ROWS => k_is); (case fa_is_integer => k_is); (case fl_is_integer => k_is); (case fc_is_integer => k_is); (case fk_is_integer => k_is); (case fa_is_within => k_is); (case fl_is_within => k_is); (case fc_is_within => k_is); (case fk_is_within => k_is); (case fa_is_triple => k_is); (case fl_is_triple => k_is); (case fc_is_triple => k_is); (case fk_is_triple => k_is); (case fa_is_flag => k_is); (case fl_is_flag => k_is); (case fc_is_flag => k_is); (case fk_is_flag => k_is); (case fa_is_row => k_is); (case fl_is_row => k_is); (case fc_is_row => k_is); (case fk_is_row => k_is); (case fa_first_bad => k_is); (case fl_first_bad => k_is); (case fc_first_bad => k_is); (case fk_first_bad => k_is); (case ka_Log => k_is); (case ki_Log => k_is); (case kf_Log => k_is); (case kl_Log => k_is); (case kc_Log => k_is); (case kk_Log => k_is); (case km_Log => k_is); (case kq_Log => k_is); (case kp_Log => k_is); (case kh_Log => k_is); (case ko_Log => k_is); (case ks_Log => k_is); (case kn_Log_offices => k_is); (case kn_Log_rows => k_is); (case fa_check_row => k_is); (case fl_check_row => k_is); (case fc_check_row => k_is); (case fk_check_row => k_is); (case fa_raw_log => k_is); (case fl_raw_log => k_is); (case fc_raw_log => k_is); (case fk_raw_log => k_is); (case fa_without => k_is); (case fl_without => k_is); (case fc_without => k_is); (case fk_without => k_is); (case fa_moved_find => k_is); (case fl_moved_find => k_is); (case fc_moved_find => k_is); (case fk_moved_find => k_is); (case fa__law_dice => k_is); (case fl__law_dice => k_is); (case fc__law_dice => k_is); (case fk__law_dice => k_is); (case fa__law_draw => k_is); (case fl__law_draw => k_is); (case fc__law_draw => k_is); (case fk__law_draw => k_is); (case fa__law_row => k_is); (case fl__law_row => k_is); (case fc__law_row => k_is); (case fk__law_row => k_is); (case fa__law_rows => k_is); (case fl__law_rows => k_is); (case fc__law_rows => k_is); (case fk__law_rows => k_is); (case fa__law_doing => k_is); (case fl__law_doing => k_is); (case fc__law_doing => k_is); (case fk__law_doing => k_is); (case fa__law_led => k_is); (case fl__law_led => k_is); (case fc__law_led => k_is); (case fk__law_led => k_is); (case fa__law_find => k_is); (case fl__law_find => k_is); (case fc__law_find => k_is); (case fk__law_find => k_is); (case fa__law_moved => k_is); (case fl__law_moved => k_is); (case fc__law_moved => k_is); (case fk__law_moved => k_is); (case fa_check_number => k_is); (case fl_check_number => k_is); (case fc_check_number => k_is); (case fk_check_number => k_is); (case ka_Archive => k_is); (case ki_Archive => k_is); (case kf_Archive => k_is); (case kl_Archive => k_is); (case kc_Archive => k_is); (case kk_Archive => k_is); (case km_Archive => k_is); (case kq_Archive => k_is); (case kp_Archive => k_is); (case kh_Archive => k_is); (case ko_Archive => k_is); (case ks_Archive => k_is); (case kn_Archive_pair => k_is); (case kn_Archive_past => k_is); (case fa_check_most => k_is); (case fl_check_most => k_is); (case fc_check_most => k_is); (case fk_check_most => k_is); (case fa_with_row => k_is); (case fl_with_row => k_is); (case fc_with_row => k_is); (case fk_with_row => k_is); (case fa_is_find => k_is); (case fl_is_find => k_is); (case fc_is_find => k_is); (case fk_is_find => k_is); (case fa__law_filled => k_is); (case fl__law_filled => k_is); (case fc__law_filled => k_is); (case fk__law_filled => k_is); (case fa_is_doing => k_is); (case fl_is_doing => k_is); (case fc_is_doing => k_is); (case fk_is_doing => k_is); (case fa_check_doing => k_is); (case fl_check_doing => k_is); (case fc_check_doing => k_is); (case fk_check_doing => k_is); (case fa_begun => k_is); (case fl_begun => k_is); (case fc_begun => k_is); (case fk_begun => k_is); (case fa_copied => k_is); (case fl_copied => k_is); (case fc_copied => k_is); (case fk_copied => k_is); (case fa_led => k_is); (case fl_led => k_is); (case fc_led => k_is); (case fk_led => k_is); (case fa_all_sheets => k_is); (case fl_all_sheets => k_is); (case fc_all_sheets => k_is); (case fk_all_sheets => k_is); (case fa__law_put_right => k_is); (case fl__law_put_right => k_is); (case fc__law_put_right => k_is); (case fk__law_put_right => k_is); (case fa_law => k_is); (case fl_law => k_is); (case fc_law => k_is); (case fk_law => k_is); (case qi_Log => k_is); (case qf_Log => k_is); (case ql_Log => k_is); (case qc_Log => k_is); (case qk_Log => k_is); (case mi_Archive__m_now => k_is); (case mf_Archive__m_now => k_is); (case ml_Archive__m_now => k_is); (case mc_Archive__m_now => k_is); (case mk_Archive__m_now => k_is); (case mi_Archive__m_change => k_is); (case mf_Archive__m_change => k_is); (case ml_Archive__m_change => k_is); (case mc_Archive__m_change => k_is); (case mk_Archive__m_change => k_is); (case mi_Archive__m_strike => k_is); (case mf_Archive__m_strike => k_is); (case ml_Archive__m_strike => k_is); (case mc_Archive__m_strike => k_is); (case mk_Archive__m_strike => k_is); (case mi_Archive__m_back => k_is); (case mf_Archive__m_back => k_is); (case ml_Archive__m_back => k_is); (case mc_Archive__m_back => k_is); (case mk_Archive__m_back => k_is); (case mi_Archive__m_steps => k_is); (case mf_Archive__m_steps => k_is); (case ml_Archive__m_steps => k_is); (case mc_Archive__m_steps => k_is); (case mk_Archive__m_steps => k_is); (case mi_Archive__m_put => k_is); (case mf_Archive__m_put => k_is); (case ml_Archive__m_put => k_is); (case mc_Archive__m_put => k_is); (case mk_Archive__m_put => k_is); (case mi_Archive__m_show => k_is); (case mf_Archive__m_show => k_is); (case ml_Archive__m_show => k_is); (case mc_Archive__m_show => k_is); (case mk_Archive__m_show => k_is); (case jc_Log => first | k_is | kernel_rfl); (case js_Log => first | k_is | kernel_rfl); (case jt_Log => first | k_is | kernel_rfl); (case jm_Log => first | k_is | kernel_rfl); (case jo_Log => first | k_is | kernel_rfl); (case xa_BadRow => k_is); (case xe_BadRow => kernel_rfl); (case xk_BadRow => k_is); (case xs_BadRow => k_is); (case xt_BadRow => k_is); (case xa_NoDoing => k_is); (case xe_NoDoing => kernel_rfl); (case xk_NoDoing => k_is); (case xs_NoDoing => k_is); (case xt_NoDoing => k_is); (case xa_NoFind => k_is); (case xe_NoFind => kernel_rfl); (case xk_NoFind => k_is); (case xs_NoFind => k_is); (case xt_NoFind => k_is); (case xa_NoNumber => k_is); (case xe_NoNumber => kernel_rfl); (case xk_NoNumber => k_is); (case xs_NoNumber => k_is); (case xt_NoNumber => k_is); (case xa_NoRow => k_is); (case xe_NoRow => kernel_rfl); (case xk_NoRow => k_is); (case xs_NoRow => k_is); (case xt_NoRow => k_is); (case xa_NothingDone => k_is); (case xe_NothingDone => kernel_rfl); (case xk_NothingDone => k_is); (case xs_NothingDone => k_is); (case xt_NothingDone => k_is)
